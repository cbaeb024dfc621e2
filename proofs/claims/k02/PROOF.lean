import PyProof.Rows.All
import Wide.All
import OpenK.AllK
import Wide.FinOn
import HandS.ForMost
import HandS.Evl
import HandS.Wide
import HandS.IsInst
import HandS.TupAny
import HandS.Style
import HandS.Defaults
import HandS.DeepEq
import HandS.Walk
import KE.GoesEnum
import HandS.Head0
import HandS.Head1
import HandS.Head2
import HandS.HeadEnd
import HandS.HeadHook1
import HandS.HeadHook2
import PySem.Challenge.RW_roomways_k02_whole_rooms_held_and_wished
set_option Elab.async false
set_option linter.all false
set_option maxRecDepth 100000
set_option maxHeartbeats 2000000
/-! RL1: data, what bears them, the state of a def's body -/
namespace RL
open PySem L2

/-- data that never change -/
inductive D where
  | non | bl (b : Bool) | int (i : Int) | str (s : Str) | tup (l : List D) | lst (l : List D) | dct (l : List (Key × D)) | ty (n : String)
/-- what a slot may hold: data, lists of data, dicts -/
inductive M where
  | im (d : D) | li (l : List D) | ll (l : List M) | dk (l : List (Key × M))

abbrev FS := Addr → Prop
def e0 : FS := fun _ => False
def Dj (F G : FS) : Prop := ∀ a, F a → G a → False
theorem Dj.symm {F G : FS} (h : Dj F G) : Dj G F := fun a x y => h a y x
theorem Dj.e0l {F : FS} : Dj e0 F := fun _ x _ => x.elim
theorem Dj.e0r {F : FS} : Dj F e0 := fun _ _ x => x.elim

def Ext (H H' : Hp) : Prop := ∀ a o, H a = some o → H' a = some o
def TF (H H' : Hp) : Prop := (∀ a xs, H a = some (.tup xs) → H' a = some (.tup xs)) ∧ ∀ a o u, H a = some (.frz o u) → H' a = some (.frz o u)
theorem Ext.refl {H : Hp} : Ext H H := fun _ _ h => h
theorem Ext.trans {H H1 H2 : Hp} (a : Ext H H1) (b : Ext H1 H2) : Ext H H2 := fun x o h => b x o (a x o h)
theorem Ext.new {H : Hp} {p : Addr} {o : HO} (h : H p = none) : Ext H (upd H p o) := fun a u e => by
  rw [upd_ne (ne_of_none e h)]; exact e
theorem Ext.free {H H' : Hp} {p : Addr} (e : Ext H H') (h : H' p = none) : H p = none := by
  cases h1 : H p with
  | none => rfl
  | some o => rw [e p o h1] at h; cases h
theorem TF.refl {H : Hp} : TF H H := ⟨fun _ _ h => h, fun _ _ _ h => h⟩
theorem TF.trans {H H1 H2 : Hp} (a : TF H H1) (b : TF H1 H2) : TF H H2 := ⟨fun x o h => b.1 x o (a.1 x o h), fun x o u h => b.2 x o u (a.2 x o u h)⟩
theorem Ext.tf {H H' : Hp} (e : Ext H H') : TF H H' := ⟨fun a xs h => e a _ h, fun a o u h => e a _ h⟩
theorem TF.write {H : Hp} {p : Addr} {o : HO} (m : Mut (H p)) : TF H (upd H p o) := by
  refine ⟨fun a xs h => ?_, fun a ob u h => ?_⟩
  · rw [upd_ne]; exact h
    intro e; subst e; rw [h] at m; exact m
  · rw [upd_ne]; exact h
    intro e; subst e; rw [h] at m; exact m
theorem TF.rd {H H' : Hp} {a : Addr} {xs : List V} (t : TF H H') (h : Rd H a (.tup xs)) : Rd H' a (.tup xs) := by
  rcases h with h | ⟨o, h⟩
  · exact .inl (t.1 _ _ h)
  · exact .inr ⟨o, t.2 _ _ _ h⟩
theorem TF.sqt {K : PySem.W.Frag} {H H' : Hp} {a : Addr} {xs : List V} (t : TF H H') (h : SqT K H a xs) : SqT K H' a xs := by
  rcases h with h | h
  · exact .inl (t.rd h)
  · exact .inr h

/-- a list that never changes: locked, or an object of the module -/
def FzL (K : PySem.W.Frag) (H : Hp) (a : Addr) (xs : List V) : Prop :=
  (∃ o, H a = some (.frz o (.lst xs))) ∨ ∃ (o : Obj) (its : Array Value) (n : Nat), K.lookup a = some o ∧ o.cls = .type "list" ∧ o.dict = none ∧ o.data = .seq its n ∧ its.size ≤ sizeLine ∧ Vals xs its.toList
theorem FzL.sq {K : PySem.W.Frag} {H : Hp} {a : Addr} {xs : List V} (h : FzL K H a xs) : SqL K H a xs := by
  rcases h with h | h
  · exact .inl (.inr h)
  · exact .inr h
theorem TF.fzl {K : PySem.W.Frag} {H H' : Hp} {a : Addr} {xs : List V} (t : TF H H') (h : FzL K H a xs) : FzL K H' a xs := by
  rcases h with ⟨o, h⟩ | h
  · exact .inl ⟨o, t.2 _ _ _ h⟩
  · exact .inr h
section
variable (K : PySem.W.Frag)
mutual
/-- a value bears a datum -/
def rD : D → V → Hp → Prop
  | .non, v, _ => v = .non
  | .bl b, v, _ => v = .bl b
  | .int i, v, _ => v = .int i
  | .str s, v, _ => v = .str s
  | .ty n, v, _ => v = .ty n
  | .tup ds, v, H => ∃ a vs, v = .ref a ∧ SqT K H a vs ∧ rDs ds vs H
  | .lst ds, v, H => ∃ a vs, v = .ref a ∧ FzL K H a vs ∧ rDs ds vs H
  | .dct ks, v, H => ∃ a o kvs, v = .ref a ∧ H a = some (.frz o (.dK kvs)) ∧ rDk ks kvs H
def rDs : List D → List V → Hp → Prop
  | [], vs, _ => vs = []
  | d :: ds, vs, H => ∃ w ws, vs = w :: ws ∧ rD d w H ∧ rDs ds ws H
def rDk : List (Key × D) → List (Key × V) → Hp → Prop
  | [], vs, _ => vs = []
  | (k, d) :: ds, vs, H => ∃ w ws, vs = (k, w) :: ws ∧ rD d w H ∧ rDk ds ws H
end
mutual
/-- a value bears what may change, the changeable objects of which stand at F -/
def rM : M → V → Hp → FS → Prop
  | .im d, v, H, F => rD K d v H ∧ ∀ a, ¬ F a
  | .li ds, v, H, F => ∃ a vs, v = .ref a ∧ H a = some (.lst vs) ∧ rDs K ds vs H ∧ ∀ b, F b ↔ b = a
  | .ll ms, v, H, F => ∃ a vs F', v = .ref a ∧ H a = some (.lst vs) ∧ rMs ms vs H F' ∧ ¬ F' a ∧ ∀ b, F b ↔ (b = a ∨ F' b)
  | .dk ks, v, H, F => ∃ a kvs F', v = .ref a ∧ H a = some (.dK kvs) ∧ rMk ks kvs H F' ∧ ¬ F' a ∧ ∀ b, F b ↔ (b = a ∨ F' b)
def rMs : List M → List V → Hp → FS → Prop
  | [], vs, _, F => vs = [] ∧ ∀ a, ¬ F a
  | m :: ms, vs, H, F => ∃ w ws F1 F2, vs = w :: ws ∧ rM m w H F1 ∧ rMs ms ws H F2 ∧ Dj F1 F2 ∧ ∀ a, F a ↔ (F1 a ∨ F2 a)
def rMk : List (Key × M) → List (Key × V) → Hp → FS → Prop
  | [], vs, _, F => vs = [] ∧ ∀ a, ¬ F a
  | (k, m) :: ms, vs, H, F => ∃ w ws F1 F2, vs = (k, w) :: ws ∧ rM m w H F1 ∧ rMk ms ws H F2 ∧ Dj F1 F2 ∧ ∀ a, F a ↔ (F1 a ∨ F2 a)
end
end

variable {K : PySem.W.Frag} {H H' : Hp}
mutual
theorem rD.tf (t : TF H H') : ∀ {d : D} {v : V}, rD K d v H → rD K d v H'
  | .non, v, h => by unfold rD at h ⊢; exact h
  | .bl b, v, h => by unfold rD at h ⊢; exact h
  | .int i, v, h => by unfold rD at h ⊢; exact h
  | .str s, v, h => by unfold rD at h ⊢; exact h
  | .ty n, v, h => by unfold rD at h ⊢; exact h
  | .tup ds, v, h => by
    unfold rD at h ⊢
    obtain ⟨a, vs, e, s, r⟩ := h
    exact ⟨a, vs, e, t.sqt s, rDs.tf t r⟩
  | .lst ds, v, h => by
    unfold rD at h ⊢
    obtain ⟨a, vs, e, s, r⟩ := h
    exact ⟨a, vs, e, t.fzl s, rDs.tf t r⟩
  | .dct ks, v, h => by
    unfold rD at h ⊢
    obtain ⟨a, o, vs, e, s, r⟩ := h
    exact ⟨a, o, vs, e, t.2 _ _ _ s, rDk.tf t r⟩
theorem rDs.tf (t : TF H H') : ∀ {d : List D} {v : List V}, rDs K d v H → rDs K d v H'
  | [], v, h => by unfold rDs at h ⊢; exact h
  | d :: ds, v, h => by
    unfold rDs at h ⊢
    obtain ⟨w, ws, e, r, s⟩ := h
    exact ⟨w, ws, e, rD.tf t r, rDs.tf t s⟩
theorem rDk.tf (t : TF H H') : ∀ {d : List (Key × D)} {v : List (Key × V)}, rDk K d v H → rDk K d v H'
  | [], v, h => by unfold rDk at h ⊢; exact h
  | (k, d) :: ds, v, h => by
    unfold rDk at h ⊢
    obtain ⟨w, ws, e, r, s⟩ := h
    exact ⟨w, ws, e, rD.tf t r, rDk.tf t s⟩
end
mutual
theorem rM.st (t : TF H H') : ∀ {m : M} {v : V} {F : FS}, (∀ a, F a → H' a = H a) → rM K m v H F → rM K m v H' F
  | .im d, v, F, k, h => by unfold rM at h ⊢; exact ⟨h.1.tf t, h.2⟩
  | .li ds, v, F, k, h => by
    unfold rM at h ⊢
    obtain ⟨a, vs, e, s, r, f⟩ := h
    exact ⟨a, vs, e, (k a ((f a).2 rfl)).trans s, r.tf t, f⟩
  | .ll ms, v, F, k, h => by
    unfold rM at h ⊢
    obtain ⟨a, vs, F', e, s, r, n, f⟩ := h
    exact ⟨a, vs, F', e, (k a ((f a).2 (.inl rfl))).trans s, rMs.st t (fun b hb => k b ((f b).2 (.inr hb))) r, n, f⟩
  | .dk ms, v, F, k, h => by
    unfold rM at h ⊢
    obtain ⟨a, vs, F', e, s, r, n, f⟩ := h
    exact ⟨a, vs, F', e, (k a ((f a).2 (.inl rfl))).trans s, rMk.st t (fun b hb => k b ((f b).2 (.inr hb))) r, n, f⟩
theorem rMs.st (t : TF H H') : ∀ {m : List M} {v : List V} {F : FS}, (∀ a, F a → H' a = H a) → rMs K m v H F → rMs K m v H' F
  | [], v, F, k, h => by unfold rMs at h ⊢; exact h
  | m :: ms, v, F, k, h => by
    unfold rMs at h ⊢
    obtain ⟨w, ws, F1, F2, e, r, s, d, f⟩ := h
    exact ⟨w, ws, F1, F2, e, rM.st t (fun a ha => k a ((f a).2 (.inl ha))) r, rMs.st t (fun a ha => k a ((f a).2 (.inr ha))) s, d, f⟩
theorem rMk.st (t : TF H H') : ∀ {m : List (Key × M)} {v : List (Key × V)} {F : FS}, (∀ a, F a → H' a = H a) → rMk K m v H F → rMk K m v H' F
  | [], v, F, k, h => by unfold rMk at h ⊢; exact h
  | (_, m) :: ms, v, F, k, h => by
    unfold rMk at h ⊢
    obtain ⟨w, ws, F1, F2, e, r, s, d, f⟩ := h
    exact ⟨w, ws, F1, F2, e, rM.st t (fun a ha => k a ((f a).2 (.inl ha))) r, rMk.st t (fun a ha => k a ((f a).2 (.inr ha))) s, d, f⟩
end
mutual
theorem rM.mut : ∀ {m : M} {v : V} {F : FS} {a : Addr}, rM K m v H F → F a → Mut (H a)
  | .im d, v, F, a, h, f => by unfold rM at h; exact absurd f (h.2 a)
  | .li ds, v, F, a, h, f => by
    unfold rM at h
    obtain ⟨b, vs, e, s, r, g⟩ := h
    cases (g a).1 f
    rw [s]; trivial
  | .ll ms, v, F, a, h, f => by
    unfold rM at h
    obtain ⟨b, vs, F', e, s, r, n, g⟩ := h
    rcases (g a).1 f with q | q
    · subst q; rw [s]; trivial
    · exact rMs.mut r q
  | .dk ms, v, F, a, h, f => by
    unfold rM at h
    obtain ⟨b, vs, F', e, s, r, n, g⟩ := h
    rcases (g a).1 f with q | q
    · subst q; rw [s]; trivial
    · exact rMk.mut r q
theorem rMs.mut : ∀ {m : List M} {v : List V} {F : FS} {a : Addr}, rMs K m v H F → F a → Mut (H a)
  | [], v, F, a, h, f => by unfold rMs at h; exact absurd f (h.2 a)
  | m :: ms, v, F, a, h, f => by
    unfold rMs at h
    obtain ⟨w, ws, F1, F2, e, r, s, d, g⟩ := h
    rcases (g a).1 f with q | q
    · exact rM.mut r q
    · exact rMs.mut s q
theorem rMk.mut : ∀ {m : List (Key × M)} {v : List (Key × V)} {F : FS} {a : Addr}, rMk K m v H F → F a → Mut (H a)
  | [], v, F, a, h, f => by unfold rMk at h; exact absurd f (h.2 a)
  | (_, m) :: ms, v, F, a, h, f => by
    unfold rMk at h
    obtain ⟨w, ws, F1, F2, e, r, s, d, g⟩ := h
    rcases (g a).1 f with q | q
    · exact rM.mut r q
    · exact rMk.mut s q
end
end RL

set_option maxHeartbeats 2000000
/-! RL2: the state of a def's body -/
namespace RL
open PySem L2

/-- what lies on the stack of values: its own; taken out of a slot; another name of a slot -/
inductive T where
  | own (m : M) | tk (j : Nat) (m : M) | al (j : Nat) | hid (m : M) (v : V) | hal (j : Nat) (v : V)
abbrev T.im (d : D) : T := .own (.im d)
abbrev Ctx := List (Option M)
structure Cn where
  K : PySem.W.Frag
  H0 : Hp
  io : FS
  pin : List (Nat × V)
  mio : ∀ a, io a → Mut (H0 a)
def rT (K : PySem.W.Frag) (σ : St) : T → V → Hp → FS → Prop
  | .own m, v, H, G => rM K m v H G
  | .tk j m, v, H, G => σ[j]? = some (some v) ∧ rM K m v H G
  | .al j, v, H, G => σ[j]? = some (some v) ∧ ∀ a, ¬ G a
  | .hid m v0, v, H, G => v = v0 ∧ rM K m v H G
  | .hal j v0, v, H, G => v = v0 ∧ σ[j]? = some (some v) ∧ ∀ a, ¬ G a
/-- it is not about the slot i -/
def T.free (i : Nat) : T → Prop
  | .own _ => True
  | .tk j _ => j ≠ i
  | .al j => j ≠ i
  | .hid _ _ => True
  | .hal j _ => j ≠ i
def Free (i : Nat) : List T → Prop
  | [] => True
  | t :: ts => t.free i ∧ Free i ts
theorem Free.of {i : Nat} : ∀ {Ts : List T} {k : Nat} {t : T}, Free i Ts → Ts[k]? = some t → t.free i
  | [], k, t, h, e => by simp at e
  | u :: ts, 0, t, h, e => by simp at e; subst e; exact h.1
  | u :: ts, k + 1, t, h, e => Free.of (Ts := ts) h.2 (by simpa using e)
theorem rT.free {K : PySem.W.Frag} {H : Hp} {σ : St} {t : T} {v w : V} {F : FS} {i : Nat} (f : t.free i) (h : rT K σ t v H F) : rT K (σ.set i (some w)) t v H F := by
  cases t with
  | own m => exact h
  | tk j m => exact ⟨by rw [List.getElem?_set_ne (Ne.symm f)]; exact h.1, h.2⟩
  | al j => exact ⟨by rw [List.getElem?_set_ne (Ne.symm f)]; exact h.1, h.2⟩
  | hid m v0 => exact h
  | hal j v0 => exact ⟨h.1, by rw [List.getElem?_set_ne (Ne.symm f)]; exact h.2.1, h.2.2⟩
def Frm (H0 : Hp) (io : FS) (H : Hp) : Prop := ∀ a o, H0 a = some o → ¬ io a → H a = some o
theorem Frm.tf {H0 H : Hp} {io : FS} (f : Frm H0 io H) (m : ∀ a, io a → Mut (H0 a)) : TF H0 H := by
  refine ⟨fun a xs h => f a _ h fun i => ?_, fun a o u h => f a _ h fun i => ?_⟩
  · have := m a i; rw [h] at this; exact this
  · have := m a i; rw [h] at this; exact this
theorem rT.st {K : PySem.W.Frag} {H H' : Hp} {σ : St} {t : T} {v : V} {F : FS} (tf : TF H H') (k : ∀ a, F a → H' a = H a) (h : rT K σ t v H F) : rT K σ t v H' F := by
  cases t with
  | own m => exact rM.st tf k h
  | tk j m => exact ⟨h.1, rM.st tf k h.2⟩
  | al j => exact h
  | hid m v0 => exact ⟨h.1, rM.st tf k h.2⟩
  | hal j v0 => exact h

structure AsW (C : Cn) (Γ : Ctx) (Ts : List T) (σ : St) (vs : List V) (H : Hp) (fp : Sum Nat Nat → FS) : Prop where
  lg : Γ.length = σ.length
  ln : Ts.length = vs.length
  sl : ∀ i m, Γ[i]? = some (some m) → ∃ v, σ[i]? = some (some v) ∧ rM C.K m v H (fp (.inl i))
  tp : ∀ k t, Ts[k]? = some t → ∃ v, vs[k]? = some v ∧ rT C.K σ t v H (fp (.inr k))
  dj : ∀ x y, x ≠ y → Dj (fp x) (fp y)
  sn : ∀ x a, fp x a → C.io a ∨ C.H0 a = none
  mu : ∀ x a, fp x a → Mut (H a)
  fr : Frm C.H0 C.io H
  pn : ∀ p ∈ C.pin, σ[p.1]? = some (some p.2)
def As (C : Cn) (Γ : Ctx) (Ts : List T) (σ : St) (vs : List V) (H : Hp) : Prop := ∃ fp, AsW C Γ Ts σ vs H fp

section
variable {C : Cn} {Γ Γ' : Ctx} {Ts : List T} {σ : St} {vs : List V} {H H' : Hp} {i j : Nat} {m m' : M} {t : T} {v w : V} {F F' : FS} {fp : Sum Nat Nat → FS}

theorem mut_some {o : Option HO} (m : Mut o) : ∃ u, o = some u := by
  cases o with
  | none => exact m.elim
  | some u => exact ⟨u, rfl⟩
theorem Ext.same (e : Ext H H') {a : Addr} (m : Mut (H a)) : H' a = H a := by
  obtain ⟨u, h⟩ := mut_some m
  rw [h]; exact e a u h
theorem As.ext (e : Ext H H') (h : As C Γ Ts σ vs H) : As C Γ Ts σ vs H' := by
  obtain ⟨fp, W⟩ := h
  refine ⟨fp, W.lg, W.ln, fun i m q => ?_, fun k t q => ?_, W.dj, W.sn, fun x a q => ?_, fun a o q n => e a o (W.fr a o q n), W.pn⟩
  · obtain ⟨v, q1, q2⟩ := W.sl i m q
    exact ⟨v, q1, rM.st e.tf (fun a ha => e.same (W.mu _ a ha)) q2⟩
  · obtain ⟨v, q1, q2⟩ := W.tp k t q
    exact ⟨v, q1, rT.st e.tf (fun a ha => e.same (W.mu _ a ha)) q2⟩
  · rw [e.same (W.mu x a q)]; exact W.mu x a q
theorem As.tf (h : As C Γ Ts σ vs H) : TF C.H0 H := by
  obtain ⟨fp, W⟩ := h
  exact W.fr.tf C.mio
/-- a new footprint at one place; the heap changed at that place alone, or grew -/
theorem AsW.at (W : AsW C Γ Ts σ vs H fp) (x : Sum Nat Nat) (t : TF H H') (k : ∀ a, ¬ fp x a → H a ≠ none → H' a = H a) (n : ∀ a, F' a → fp x a ∨ H a = none) (mf : ∀ a, F' a → Mut (H' a)) :
    (∀ y, y ≠ x → ∀ a, fp y a → H' a = H a) ∧ (∀ y z, y ≠ z → Dj (if y = x then F' else fp y) (if z = x then F' else fp z)) ∧ (∀ y a, (if y = x then F' else fp y) a → C.io a ∨ C.H0 a = none) ∧ (∀ y a, (if y = x then F' else fp y) a → Mut (H' a)) ∧ Frm C.H0 C.io H' := by
  have k1 : ∀ y, y ≠ x → ∀ a, fp y a → H' a = H a := fun y hy a ha => by
    obtain ⟨u, hu⟩ := mut_some (W.mu y a ha)
    exact k a (fun q => W.dj y x hy a ha q) (by rw [hu]; simp)
  have nf : ∀ y, y ≠ x → ∀ a, F' a → ¬ fp y a := fun y hy a ha q => by
    rcases n a ha with r | r
    · exact W.dj x y (fun e => hy e.symm) a r q
    · obtain ⟨u, hu⟩ := mut_some (W.mu y a q)
      rw [hu] at r; cases r
  refine ⟨k1, fun y z hyz a ha hb => ?_, fun y a ha => ?_, fun y a ha => ?_, fun a o q ni => ?_⟩
  · by_cases hy : y = x
    · rw [if_pos hy] at ha
      by_cases hz : z = x
      · exact hyz (hy.trans hz.symm)
      · rw [if_neg hz] at hb
        exact nf z hz a ha hb
    · rw [if_neg hy] at ha
      by_cases hz : z = x
      · rw [if_pos hz] at hb
        exact nf y hy a hb ha
      · rw [if_neg hz] at hb
        exact W.dj y z hyz a ha hb
  · by_cases hy : y = x
    · rw [if_pos hy] at ha
      rcases n a ha with r | r
      · exact W.sn x a r
      · by_cases hi : C.io a
        · exact .inl hi
        · refine .inr ?_
          cases q : C.H0 a with
          | none => rfl
          | some o => rw [W.fr a o q hi] at r; cases r
    · rw [if_neg hy] at ha
      exact W.sn y a ha
  · by_cases hy : y = x
    · rw [if_pos hy] at ha
      exact mf a ha
    · rw [if_neg hy] at ha
      rw [k1 y hy a ha]
      exact W.mu y a ha
  · have r := W.fr a o q ni
    rw [k a (fun f => ?_) (by rw [r]; simp)]
    · exact r
    · rcases W.sn x a f with z | z
      · exact ni z
      · rw [q] at z; cases z
/-- what the slot i holds is changed -/
theorem As.slot (h : As C Γ Ts σ vs H) (hi : Γ[i]? = some (some m)) : ∃ v F, σ[i]? = some (some v) ∧ rM C.K m v H F ∧
    ∀ m' H' F', TF H H' → (∀ a, ¬ F a → H a ≠ none → H' a = H a) → rM C.K m' v H' F' → (∀ a, F' a → F a ∨ H a = none) → As C (Γ.set i (some m')) Ts σ vs H' := by
  obtain ⟨fp, W⟩ := h
  obtain ⟨v, hv, r⟩ := W.sl i m hi
  refine ⟨v, fp (.inl i), hv, r, fun m' H' F' t k r' n => ?_⟩
  obtain ⟨k1, d, s, u, f⟩ := W.at (.inl i) t k n fun a ha => rM.mut r' ha
  have hl : i < Γ.length := (List.getElem?_eq_some_iff.mp hi).1
  refine ⟨fun y => if y = .inl i then F' else fp y, by rw [List.length_set]; exact W.lg, W.ln, fun j mj q => ?_, fun l tl q => ?_, d, s, u, f, W.pn⟩
  · by_cases e : j = i
    · subst e
      rw [List.getElem?_set_self hl] at q
      cases q
      exact ⟨v, hv, by rw [if_pos rfl]; exact r'⟩
    · rw [List.getElem?_set_ne (Ne.symm e)] at q
      obtain ⟨v', q1, q2⟩ := W.sl j mj q
      have ne : (Sum.inl j : Sum Nat Nat) ≠ .inl i := fun z => e (Sum.inl.inj z)
      exact ⟨v', q1, by rw [if_neg ne]; exact rM.st t (k1 _ ne) q2⟩
  · obtain ⟨v', q1, q2⟩ := W.tp l tl q
    have ne : (Sum.inr l : Sum Nat Nat) ≠ .inl i := fun z => nomatch z
    exact ⟨v', q1, by rw [if_neg ne]; exact rT.st t (k1 _ ne) q2⟩
theorem app_get {α : Type} {l : List α} {x y : α} {k : Nat} (h : (l ++ [x])[k]? = some y) : (l[k]? = some y ∧ k < l.length) ∨ (k = l.length ∧ y = x) := by
  by_cases e : k < l.length
  · rw [List.getElem?_append_left e] at h
    exact .inl ⟨h, e⟩
  · have e2 : l.length ≤ k := Nat.le_of_not_lt e
    rw [List.getElem?_append_right e2] at h
    have e3 : k - l.length = 0 := by
      cases z : k - l.length with
      | zero => rfl
      | succ n => rw [z] at h; simp at h
    rw [e3] at h
    simp at h
    exact .inr ⟨by omega, h.symm⟩
theorem app_left {α : Type} {l : List α} {x : α} {k : Nat} (h : k < l.length) : (l ++ [x])[k]? = l[k]? := List.getElem?_append_left h
theorem app_last {α : Type} {l : List α} {x : α} : (l ++ [x])[l.length]? = some x := by simp
/-- what lies on top is changed -/
theorem As.top (h : As C Γ (Ts ++ [t]) σ (vs ++ [v]) H) : ∃ F, rT C.K σ t v H F ∧
    ∀ t' v' H' F', TF H H' → (∀ a, ¬ F a → H a ≠ none → H' a = H a) → rT C.K σ t' v' H' F' → (∀ a, F' a → F a ∨ H a = none) → (∀ a, F' a → Mut (H' a)) → As C Γ (Ts ++ [t']) σ (vs ++ [v']) H' := by
  obtain ⟨fp, W⟩ := h
  have ln : Ts.length = vs.length := by have := W.ln; simp at this; exact this
  obtain ⟨v1, hv, r⟩ := W.tp Ts.length t app_last
  have ev : v1 = v := by
    rw [ln, app_last] at hv; exact (Option.some.inj hv).symm
  subst ev
  refine ⟨fp (.inr Ts.length), r, fun t' v' H' F' tf k r' n mf => ?_⟩
  obtain ⟨k1, d, s, u, f⟩ := W.at (.inr Ts.length) tf k n mf
  refine ⟨fun y => if y = .inr Ts.length then F' else fp y, W.lg, by simp [ln], fun j mj q => ?_, fun l tl q => ?_, d, s, u, f, W.pn⟩
  · obtain ⟨v', q1, q2⟩ := W.sl j mj q
    have ne : (Sum.inl j : Sum Nat Nat) ≠ .inr Ts.length := fun z => nomatch z
    exact ⟨v', q1, by rw [if_neg ne]; exact rM.st tf (k1 _ ne) q2⟩
  · rcases app_get q with ⟨q, hl⟩ | ⟨e, e2⟩
    · obtain ⟨v', q1, q2⟩ := W.tp l tl (by rw [app_left hl]; exact q)
      have ne : (Sum.inr l : Sum Nat Nat) ≠ .inr Ts.length := fun z => by have := Sum.inr.inj z; omega
      have hl2 : l < vs.length := by omega
      refine ⟨v', by rw [app_left hl2] at q1 ⊢; exact q1, by rw [if_neg ne]; exact rT.st tf (k1 _ ne) q2⟩
    · subst e e2
      exact ⟨v', by rw [ln]; exact app_last, by rw [if_pos rfl]; exact r'⟩
/-- pushed: made anew, or data -/
theorem As.push (h : As C Γ Ts σ vs H) (e : Ext H H') (r : rT C.K σ t v H' F) (n : ∀ a, F a → H a = none) (mf : ∀ a, F a → Mut (H' a)) : As C Γ (Ts ++ [t]) σ (vs ++ [v]) H' := by
  obtain ⟨fp, W⟩ := h
  have ln := W.ln
  have nf : ∀ x a, F a → ¬ fp x a := fun x a ha q => by
    obtain ⟨u, hu⟩ := mut_some (W.mu x a q)
    rw [n a ha] at hu; cases hu
  let fq : Sum Nat Nat → FS := fun y => if y = .inr Ts.length then F else fp y
  have q1 : ∀ y, y ≠ .inr Ts.length → fq y = fp y := fun y hy => if_neg hy
  have q2 : fq (.inr Ts.length) = F := if_pos rfl
  refine ⟨fq, W.lg, by simp [ln], fun i m q => ?_, fun k t q => ?_, fun x y hxy a ha hb => ?_, fun x a ha => ?_, fun x a ha => ?_, fun a o q ni => e a o (W.fr a o q ni), W.pn⟩
  · obtain ⟨v, r1, r2⟩ := W.sl i m q
    exact ⟨v, r1, by rw [q1 (.inl i) (fun z => nomatch z)]; exact rM.st e.tf (fun a ha => e.same (W.mu _ a ha)) r2⟩
  · rcases app_get q with ⟨q, hl⟩ | ⟨z1, z2⟩
    · obtain ⟨v, r1, r2⟩ := W.tp k t q
      refine ⟨v, by rw [app_left (by omega)]; exact r1, ?_⟩
      rw [q1 (.inr k) (fun z => by have := Sum.inr.inj z; omega)]
      exact rT.st e.tf (fun a ha => e.same (W.mu _ a ha)) r2
    · subst z1 z2
      exact ⟨v, by rw [ln]; exact app_last, by rw [q2]; exact r⟩
  · by_cases hx : x = .inr Ts.length
    · subst hx
      rw [q2] at ha
      rw [q1 _ (Ne.symm hxy)] at hb
      exact nf _ a ha hb
    · rw [q1 _ hx] at ha
      by_cases hy : y = .inr Ts.length
      · subst hy
        rw [q2] at hb
        exact nf _ a hb ha
      · rw [q1 _ hy] at hb
        exact W.dj x y hxy a ha hb
  · by_cases hx : x = .inr Ts.length
    · subst hx
      rw [q2] at ha
      by_cases hi : C.io a
      · exact .inl hi
      · refine .inr ?_
        cases q : C.H0 a with
        | none => rfl
        | some o => have := W.fr a o q hi; rw [n a ha] at this; cases this
    · rw [q1 _ hx] at ha
      exact W.sn x a ha
  · by_cases hx : x = .inr Ts.length
    · subst hx
      rw [q2] at ha
      exact mf a ha
    · rw [q1 _ hx] at ha
      rw [e.same (W.mu x a ha)]
      exact W.mu x a ha
theorem As.pop (h : As C Γ (Ts ++ [t]) σ (vs ++ [v]) H) : As C Γ Ts σ vs H := by
  obtain ⟨fp, W⟩ := h
  have ln : Ts.length = vs.length := by have := W.ln; simp at this; exact this
  refine ⟨fp, W.lg, ln, W.sl, fun k t' q => ?_, W.dj, W.sn, W.mu, W.fr, W.pn⟩
  have hl : k < Ts.length := (List.getElem?_eq_some_iff.mp q).1
  obtain ⟨v', r1, r2⟩ := W.tp k t' (by rw [app_left hl]; exact q)
  exact ⟨v', by rw [app_left (by omega)] at r1; exact r1, r2⟩
/-- less is told of the slots -/
theorem As.weak (h : As C Γ Ts σ vs H) (hl : Γ'.length = Γ.length) (w : ∀ (i : Nat) (m : M), Γ'[i]? = some (some m) → Γ[i]? = some (some m)) : As C Γ' Ts σ vs H := by
  obtain ⟨fp, W⟩ := h
  exact ⟨fp, hl.trans W.lg, W.ln, fun i m q => W.sl i m (w i m q), W.tp, W.dj, W.sn, W.mu, W.fr, W.pn⟩
/-- a name that is stored -/
theorem As.set (h : As C Γ (Ts ++ [.own m]) σ (vs ++ [v]) H) (hp : ∀ p ∈ C.pin, p.1 ≠ i) (hf : Free i Ts) : As C (Γ.set i (some m)) Ts (σ.set i (some v)) vs H := by
  obtain ⟨fp, W⟩ := h
  have ln : Ts.length = vs.length := by have := W.ln; simp at this; exact this
  obtain ⟨v1, hv, r⟩ := W.tp Ts.length _ app_last
  have ev : v1 = v := by
    rw [ln, app_last] at hv; exact (Option.some.inj hv).symm
  subst ev
  let fq : Sum Nat Nat → FS := fun y => if y = .inl i then fp (.inr Ts.length) else if y = .inr Ts.length then e0 else fp y
  have q1 : fq (.inl i) = fp (.inr Ts.length) := if_pos rfl
  have q0 : fq (.inr Ts.length) = e0 := (if_neg (fun z => nomatch z)).trans (if_pos rfl)
  have q2 : ∀ y, y ≠ .inl i → y ≠ .inr Ts.length → fq y = fp y := fun y h1 h2 => (if_neg h1).trans (if_neg h2)
  have le : ∀ y a, fq y a → (y = .inl i ∧ fp (.inr Ts.length) a) ∨ (y ≠ .inl i ∧ y ≠ .inr Ts.length ∧ fp y a) := fun y a ha => by
    by_cases h1 : y = .inl i
    · subst h1; rw [q1] at ha; exact .inl ⟨rfl, ha⟩
    · by_cases h2 : y = .inr Ts.length
      · subst h2; rw [q0] at ha; exact ha.elim
      · rw [q2 y h1 h2] at ha; exact .inr ⟨h1, h2, ha⟩
  refine ⟨fq, by simp [W.lg], ln, fun j mj q => ?_, fun k t q => ?_, fun x y hxy a ha hb => ?_, fun x a ha => ?_, fun x a ha => ?_, W.fr, fun p hp' => ?_⟩
  · by_cases e : j = i
    · subst e
      have hl : j < Γ.length := by
        have := (List.getElem?_eq_some_iff.mp q).1
        simpa using this
      rw [List.getElem?_set_self hl] at q
      cases q
      refine ⟨v1, ?_, by rw [q1]; exact r⟩
      rw [List.getElem?_set_self (by rw [← W.lg]; exact hl)]
    · rw [List.getElem?_set_ne (Ne.symm e)] at q
      obtain ⟨v', r1, r2⟩ := W.sl j mj q
      refine ⟨v', by rw [List.getElem?_set_ne (Ne.symm e)]; exact r1, ?_⟩
      rw [q2 (.inl j) (fun z => e (Sum.inl.inj z)) (fun z => nomatch z)]
      exact r2
  · have hl : k < Ts.length := (List.getElem?_eq_some_iff.mp q).1
    obtain ⟨v', r1, r2⟩ := W.tp k t (by rw [app_left hl]; exact q)
    refine ⟨v', by rw [app_left (by omega)] at r1; exact r1, ?_⟩
    rw [q2 (.inr k) (fun z => nomatch z) (fun z => by have := Sum.inr.inj z; omega)]
    exact rT.free (hf.of q) r2
  · rcases le x a ha with ⟨h1, h2⟩ | ⟨h1, h2, h3⟩
    · rcases le y a hb with ⟨g1, g2⟩ | ⟨g1, g2, g3⟩
      · exact hxy (h1.trans g1.symm)
      · exact W.dj _ _ (Ne.symm g2) a h2 g3
    · rcases le y a hb with ⟨g1, g2⟩ | ⟨g1, g2, g3⟩
      · exact W.dj _ _ h2 a h3 g2
      · exact W.dj _ _ hxy a h3 g3
  · rcases le x a ha with ⟨h1, h2⟩ | ⟨h1, h2, h3⟩
    · exact W.sn _ a h2
    · exact W.sn _ a h3
  · rcases le x a ha with ⟨h1, h2⟩ | ⟨h1, h2, h3⟩
    · exact W.mu _ a h2
    · exact W.mu _ a h3
  · rw [List.getElem?_set_ne (Ne.symm (hp p hp'))]
    exact W.pn p hp'
/-- a slot's content goes onto the stack -/
theorem As.take (h : As C Γ Ts σ vs H) (hj : Γ[j]? = some (some m)) : ∃ v, σ[j]? = some (some v) ∧ As C (Γ.set j none) (Ts ++ [.tk j m]) σ (vs ++ [v]) H := by
  obtain ⟨fp, W⟩ := h
  obtain ⟨v, hv, r⟩ := W.sl j m hj
  have ln := W.ln
  refine ⟨v, hv, ?_⟩
  let fq : Sum Nat Nat → FS := fun y => if y = .inr Ts.length then fp (.inl j) else if y = .inl j then e0 else if y = .inr Ts.length then e0 else fp y
  have q1 : fq (.inr Ts.length) = fp (.inl j) := if_pos rfl
  have q2 : ∀ y, y ≠ .inl j → y ≠ .inr Ts.length → fq y = fp y := fun y h1 h2 => (if_neg h2).trans ((if_neg h1).trans (if_neg h2))
  have q0 : fq (.inl j) = e0 := (if_neg (fun z => nomatch z)).trans (if_pos rfl)
  have le : ∀ y a, fq y a → (y = .inr Ts.length ∧ fp (.inl j) a) ∨ (y ≠ .inl j ∧ y ≠ .inr Ts.length ∧ fp y a) := fun y a ha => by
    by_cases h1 : y = .inr Ts.length
    · subst h1; rw [q1] at ha; exact .inl ⟨rfl, ha⟩
    · by_cases h2 : y = .inl j
      · subst h2; rw [q0] at ha; exact ha.elim
      · rw [q2 y h2 h1] at ha; exact .inr ⟨h2, h1, ha⟩
  refine ⟨fq, by simp [W.lg], by simp [ln], fun i mi q => ?_, fun k t q => ?_, fun x y hxy a ha hb => ?_, fun x a ha => ?_, fun x a ha => ?_, W.fr, W.pn⟩
  · by_cases e : i = j
    · subst e
      have hl : i < Γ.length := (List.getElem?_eq_some_iff.mp hj).1
      rw [List.getElem?_set_self hl] at q
      cases q
    · rw [List.getElem?_set_ne (Ne.symm e)] at q
      obtain ⟨v', r1, r2⟩ := W.sl i mi q
      exact ⟨v', r1, by rw [q2 (.inl _) (fun z => e (Sum.inl.inj z)) (fun z => nomatch z)]; exact r2⟩
  · rcases app_get q with ⟨q, hl⟩ | ⟨z1, z2⟩
    · obtain ⟨v', r1, r2⟩ := W.tp k t q
      refine ⟨v', by rw [app_left (by omega)]; exact r1, ?_⟩
      rw [q2 (.inr k) (fun z => nomatch z) (fun z => by have := Sum.inr.inj z; omega)]
      exact r2
    · subst z1 z2
      exact ⟨v, by rw [ln]; exact app_last, by rw [q1]; exact ⟨hv, r⟩⟩
  · rcases le x a ha with ⟨h1, h2⟩ | ⟨h1, h2, h3⟩
    · rcases le y a hb with ⟨g1, g2⟩ | ⟨g1, g2, g3⟩
      · exact hxy (h1.trans g1.symm)
      · exact W.dj _ _ (Ne.symm g1) a h2 g3
    · rcases le y a hb with ⟨g1, g2⟩ | ⟨g1, g2, g3⟩
      · exact W.dj _ _ h1 a h3 g2
      · exact W.dj _ _ hxy a h3 g3
  · rcases le x a ha with ⟨h1, h2⟩ | ⟨h1, h2, h3⟩
    · exact W.sn _ a h2
    · exact W.sn _ a h3
  · rcases le x a ha with ⟨h1, h2⟩ | ⟨h1, h2, h3⟩
    · exact W.mu _ a h2
    · exact W.mu _ a h3
/-- and back -/
theorem As.put (h : As C Γ (Ts ++ [.tk j m]) σ (vs ++ [v]) H) : As C (Γ.set j (some m)) Ts σ vs H := by
  obtain ⟨fp, W⟩ := h
  have ln : Ts.length = vs.length := by have := W.ln; simp at this; exact this
  obtain ⟨v1, hv, hj, r⟩ := W.tp Ts.length _ app_last
  have ev : v1 = v := by
    rw [ln, app_last] at hv; exact (Option.some.inj hv).symm
  subst ev
  let fq : Sum Nat Nat → FS := fun y => if y = .inl j then fp (.inr Ts.length) else if y = .inr Ts.length then e0 else fp y
  have q1 : fq (.inl j) = fp (.inr Ts.length) := if_pos rfl
  have q2 : ∀ y, y ≠ .inl j → y ≠ .inr Ts.length → fq y = fp y := fun y h1 h2 => (if_neg h1).trans (if_neg h2)
  have q0 : fq (.inr Ts.length) = e0 := (if_neg (fun z => nomatch z)).trans (if_pos rfl)
  have le : ∀ y a, fq y a → (y = .inl j ∧ fp (.inr Ts.length) a) ∨ (y ≠ .inl j ∧ y ≠ .inr Ts.length ∧ fp y a) := fun y a ha => by
    by_cases h1 : y = .inl j
    · subst h1; rw [q1] at ha; exact .inl ⟨rfl, ha⟩
    · by_cases h2 : y = .inr Ts.length
      · subst h2; rw [q0] at ha; exact ha.elim
      · rw [q2 y h1 h2] at ha; exact .inr ⟨h1, h2, ha⟩
  refine ⟨fq, by simp [W.lg], ln, fun i mi q => ?_, fun k t q => ?_, fun x y hxy a ha hb => ?_, fun x a ha => ?_, fun x a ha => ?_, W.fr, W.pn⟩
  · by_cases e : i = j
    · subst e
      have hl : i < Γ.length := by
        have := (List.getElem?_eq_some_iff.mp q).1
        simpa using this
      rw [List.getElem?_set_self hl] at q
      cases q
      exact ⟨v1, hj, by rw [q1]; exact r⟩
    · rw [List.getElem?_set_ne (Ne.symm e)] at q
      obtain ⟨v', r1, r2⟩ := W.sl i mi q
      exact ⟨v', r1, by rw [q2 (.inl _) (fun z => e (Sum.inl.inj z)) (fun z => nomatch z)]; exact r2⟩
  · have hl : k < Ts.length := (List.getElem?_eq_some_iff.mp q).1
    obtain ⟨v', r1, r2⟩ := W.tp k t (by rw [app_left hl]; exact q)
    refine ⟨v', by rw [app_left (by omega)] at r1; exact r1, ?_⟩
    rw [q2 (.inr k) (fun z => nomatch z) (fun z => by have := Sum.inr.inj z; omega)]
    exact r2
  · rcases le x a ha with ⟨h1, h2⟩ | ⟨h1, h2, h3⟩
    · rcases le y a hb with ⟨g1, g2⟩ | ⟨g1, g2, g3⟩
      · exact hxy (h1.trans g1.symm)
      · exact W.dj _ _ (Ne.symm g2) a h2 g3
    · rcases le y a hb with ⟨g1, g2⟩ | ⟨g1, g2, g3⟩
      · exact W.dj _ _ h2 a h3 g2
      · exact W.dj _ _ hxy a h3 g3
  · rcases le x a ha with ⟨h1, h2⟩ | ⟨h1, h2, h3⟩
    · exact W.sn _ a h2
    · exact W.sn _ a h3
  · rcases le x a ha with ⟨h1, h2⟩ | ⟨h1, h2, h3⟩
    · exact W.mu _ a h2
    · exact W.mu _ a h3
/-- a value taken out of a slot is on its own from now on -/
theorem As.free (h : As C Γ (Ts ++ [.tk j m]) σ (vs ++ [v]) H) : As C Γ (Ts ++ [.own m]) σ (vs ++ [v]) H := by
  obtain ⟨F, r, q⟩ := h.top
  exact q (.own m) v H F TF.refl (fun _ _ _ => rfl) r.2 (fun a ha => .inl ha) fun a ha => rM.mut r.2 ha
/-- another name of a slot -/
theorem As.alias (h : As C Γ Ts σ vs H) (hj : Γ[j]? = some (some m)) : ∃ v, σ[j]? = some (some v) ∧ As C Γ (Ts ++ [.al j]) σ (vs ++ [v]) H := by
  obtain ⟨v, F, hv, r, _⟩ := h.slot hj
  exact ⟨v, hv, h.push Ext.refl (t := .al j) (F := e0) ⟨hv, fun a z => z⟩ (fun a z => z.elim) fun a z => z.elim⟩
/-- data in a slot -/
theorem As.slotIm {d : D} (h : As C Γ Ts σ vs H) (hi : Γ[i]? = some (some (.im d))) : ∃ v, σ[i]? = some (some v) ∧ rD C.K d v H := by
  obtain ⟨v, F, hv, r, _⟩ := h.slot hi
  unfold rM at r
  exact ⟨v, hv, r.1⟩
theorem As.pushIm {d : D} (h : As C Γ Ts σ vs H) (e : Ext H H') (r : rD C.K d v H') : As C Γ (Ts ++ [.im d]) σ (vs ++ [v]) H' :=
  h.push e (t := .im d) (F := e0) (by show rM _ _ _ _ _; unfold rM; exact ⟨r, fun a z => z⟩) (fun a z => z.elim) fun a z => z.elim
theorem As.topIm {d : D} (h : As C Γ (Ts ++ [.im d]) σ (vs ++ [v]) H) : rD C.K d v H := by
  obtain ⟨F, r, _⟩ := h.top
  have r' : rM C.K (.im d) v H F := r
  unfold rM at r'
  exact r'.1
/-- what lies on top may be told with its value -/
theorem As.hide (h : As C Γ (Ts ++ [.own m]) σ (vs ++ [v]) H) : As C Γ (Ts ++ [.hid m v]) σ (vs ++ [v]) H := by
  obtain ⟨F, r, q⟩ := h.top
  have r' : rM C.K m v H F := r
  exact q (.hid m v) v H F TF.refl (fun _ _ _ => rfl) ⟨rfl, r'⟩ (fun a ha => .inl ha) fun a ha => rM.mut r' ha
theorem As.hideAl (h : As C Γ (Ts ++ [.al j]) σ (vs ++ [v]) H) : As C Γ (Ts ++ [.hal j v]) σ (vs ++ [v]) H := by
  obtain ⟨F, r, q⟩ := h.top
  exact q (.hal j v) v H F TF.refl (fun _ _ _ => rfl) ⟨rfl, r⟩ (fun a ha => .inl ha) fun a ha => absurd ha (r.2 a)
theorem As.setIm {d : D} (h : As C Γ Ts σ vs H) (r : rD C.K d v H) (hp : ∀ p ∈ C.pin, p.1 ≠ i) (hf : Free i Ts) : As C (Γ.set i (some (.im d))) Ts (σ.set i (some v)) vs H := (h.pushIm Ext.refl r).set hp hf
/-- other values in slots of which nothing is told -/
theorem As.sig {σ' : St} {J : List Nat} (h : As C Γ Ts σ vs H) (hl : σ'.length = σ.length) (e : ∀ i, i ∉ J → σ'[i]? = σ[i]?) (hΓ : ∀ i ∈ J, ∀ m, Γ[i]? ≠ some (some m)) (hT : ∀ i ∈ J, Free i Ts) (hp : ∀ p ∈ C.pin, p.1 ∉ J) : As C Γ Ts σ' vs H := by
  obtain ⟨fp, W⟩ := h
  refine ⟨fp, W.lg.trans hl.symm, W.ln, fun i m q => ?_, fun k t q => ?_, W.dj, W.sn, W.mu, W.fr, fun p hp' => ?_⟩
  · obtain ⟨v, r1, r2⟩ := W.sl i m q
    exact ⟨v, by rw [e i (fun z => hΓ i z m q)]; exact r1, r2⟩
  · obtain ⟨v, r1, r2⟩ := W.tp k t q
    refine ⟨v, r1, ?_⟩
    cases t with
    | own m => exact r2
    | hid m v0 => exact r2
    | tk j m => exact ⟨by rw [e j (fun z => (hT j z).of q rfl)]; exact r2.1, r2.2⟩
    | al j => exact ⟨by rw [e j (fun z => (hT j z).of q rfl)]; exact r2.1, r2.2⟩
    | hal j v0 => exact ⟨r2.1, by rw [e j (fun z => (hT j z).of q rfl)]; exact r2.2.1, r2.2.2⟩
  · rw [e p.1 (hp p hp')]
    exact W.pn p hp'
/-- what lies under the top goes -/
theorem As.mid {t' : T} (h : As C Γ (Ts ++ [t] ++ [t']) σ (vs ++ [v] ++ [w]) H) : As C Γ (Ts ++ [t']) σ (vs ++ [w]) H := by
  obtain ⟨fp, W⟩ := h
  have ln : Ts.length = vs.length := by have := W.ln; simp at this; exact this
  let fq : Sum Nat Nat → FS := fun y => if y = .inr Ts.length then fp (.inr (Ts.length + 1)) else if y = .inr (Ts.length + 1) then e0 else fp y
  have q1 : fq (.inr Ts.length) = fp (.inr (Ts.length + 1)) := if_pos rfl
  have q0 : fq (.inr (Ts.length + 1)) = e0 := (if_neg (fun z => by have := Sum.inr.inj z; omega)).trans (if_pos rfl)
  have q2 : ∀ y, y ≠ .inr Ts.length → y ≠ .inr (Ts.length + 1) → fq y = fp y := fun y h1 h2 => (if_neg h1).trans (if_neg h2)
  have le : ∀ y a, fq y a → (y = .inr Ts.length ∧ fp (.inr (Ts.length + 1)) a) ∨ (y ≠ .inr Ts.length ∧ y ≠ .inr (Ts.length + 1) ∧ fp y a) := fun y a ha => by
    by_cases h1 : y = .inr Ts.length
    · subst h1; rw [q1] at ha; exact .inl ⟨rfl, ha⟩
    · by_cases h2 : y = .inr (Ts.length + 1)
      · subst h2; rw [q0] at ha; exact ha.elim
      · rw [q2 y h1 h2] at ha; exact .inr ⟨h1, h2, ha⟩
  refine ⟨fq, W.lg, by simp [ln], fun i m q => ?_, fun k t1 q => ?_, fun x y hxy a ha hb => ?_, fun x a ha => ?_, fun x a ha => ?_, W.fr, W.pn⟩
  · obtain ⟨v', r1, r2⟩ := W.sl i m q
    exact ⟨v', r1, by rw [q2 (.inl i) (fun z => nomatch z) (fun z => nomatch z)]; exact r2⟩
  · rcases app_get q with ⟨q, hl⟩ | ⟨z1, z2⟩
    · obtain ⟨v', r1, r2⟩ := W.tp k t1 (by rw [app_left (by simp; omega), app_left hl]; exact q)
      rw [app_left (by simp; omega), app_left (by omega)] at r1
      refine ⟨v', by rw [app_left (by omega)]; exact r1, ?_⟩
      rw [q2 (.inr k) (fun z => by have := Sum.inr.inj z; omega) (fun z => by have := Sum.inr.inj z; omega)]
      exact r2
    · subst z1 z2
      obtain ⟨v', r1, r2⟩ := W.tp (Ts.length + 1) t1 (by simp)
      have ev : v' = w := by
        have e2 : (vs ++ [v] ++ [w])[Ts.length + 1]? = some w := by rw [ln]; simp
        rw [e2] at r1; exact (Option.some.inj r1).symm
      subst ev
      exact ⟨v', by rw [ln]; exact app_last, by rw [q1]; exact r2⟩
  · rcases le x a ha with ⟨h1, h2⟩ | ⟨h1, h2, h3⟩
    · rcases le y a hb with ⟨g1, g2⟩ | ⟨g1, g2, g3⟩
      · exact hxy (h1.trans g1.symm)
      · exact W.dj _ _ (Ne.symm g2) a h2 g3
    · rcases le y a hb with ⟨g1, g2⟩ | ⟨g1, g2, g3⟩
      · exact W.dj _ _ h2 a h3 g2
      · exact W.dj _ _ hxy a h3 g3
  · rcases le x a ha with ⟨h1, h2⟩ | ⟨h1, h2, h3⟩
    · exact W.sn _ a h2
    · exact W.sn _ a h3
  · rcases le x a ha with ⟨h1, h2⟩ | ⟨h1, h2, h3⟩
    · exact W.mu _ a h2
    · exact W.mu _ a h3
theorem As.lnx (h : As C Γ (Ts ++ [t]) σ vs H) : ∃ us u, vs = us ++ [u] := by
  obtain ⟨fp, W⟩ := h
  have := W.ln
  rcases List.eq_nil_or_concat vs with e | ⟨us, u, e⟩
  · subst e; simp at this
  · exact ⟨us, u, by rw [e]; simp⟩
end
end RL

set_option maxHeartbeats 2000000
/-! RL3: several values at once (a call's arguments), readings of expressions, tests, statements -/
namespace RL
open PySem L2

/-- the datum on the stack (none for another name of a slot) -/
def T.mo : T → Option M
  | .own m => some m
  | .tk _ m => some m
  | .al _ => none
  | .hid _ _ => none
  | .hal _ _ => none
section
variable {C : Cn} {Γ Γ' : Ctx} {Ts Ts' : List T} {σ σ' : St} {vs vs' : List V} {H H' : Hp} {i j : Nat} {m m' : M} {t : T} {v w : V} {F F' : FS} {fp fq : Sum Nat Nat → FS}

theorem AsW.re (W : AsW C Γ Ts σ vs H fp) (g : ∀ x a, fq x a → ∃ y, fp y a) (dj : ∀ x y, x ≠ y → Dj (fq x) (fq y)) (lg : Γ'.length = σ'.length) (ln : Ts'.length = vs'.length)
    (sl : ∀ (i : Nat) (m : M), Γ'[i]? = some (some m) → ∃ v, σ'[i]? = some (some v) ∧ rM C.K m v H (fq (.inl i)))
    (tp : ∀ (k : Nat) (t : T), Ts'[k]? = some t → ∃ v, vs'[k]? = some v ∧ rT C.K σ' t v H (fq (.inr k)))
    (pn : ∀ p ∈ C.pin, σ'[p.1]? = some (some p.2)) : As C Γ' Ts' σ' vs' H :=
  ⟨fq, lg, ln, sl, tp, dj, fun x a h => let ⟨y, q⟩ := g x a h; W.sn y a q, fun x a h => let ⟨y, q⟩ := g x a h; W.mu y a q, W.fr, pn⟩

/-- what is borne, several values at once, in the place of the last value of the stack -/
structure AsB (C : Cn) (Γ : Ctx) (Ts : List T) (σ : St) (vs : List V) (ms : List M) (us : List V) (H : Hp) (fp : Sum Nat Nat → FS) (G : FS) : Prop where
  w : AsW C Γ Ts σ vs H fp
  r : rMs C.K ms us H G
  d : ∀ x, Dj (fp x) G
  s : ∀ a, G a → C.io a ∨ C.H0 a = none
theorem rMs.im {K : PySem.W.Frag} : ∀ {ds : List D} {us : List V} {F : FS}, rDs K ds us H → (∀ a, ¬ F a) → rMs K (ds.map M.im) us H F
  | [], us, F, h, f => by unfold rDs at h; show rMs K [] us H F; unfold rMs; exact ⟨h, f⟩
  | d :: ds, us, F, h, f => by
    unfold rDs at h
    obtain ⟨w, ws, e, r, s⟩ := h
    show rMs K (M.im d :: ds.map M.im) us H F
    unfold rMs
    exact ⟨w, ws, e0, e0, e, by unfold rM; exact ⟨r, fun _ z => z⟩, rMs.im s (fun _ z => z), Dj.e0l, fun a => ⟨fun z => absurd z (f a), fun z => z.elim (fun z => z.elim) fun z => z.elim⟩⟩
theorem rMs.imD {K : PySem.W.Frag} : ∀ {ds : List D} {us : List V} {F : FS}, rMs K (ds.map M.im) us H F → rDs K ds us H
  | [], us, F, h => by have h : rMs K [] us H F := h; unfold rMs at h; unfold rDs; exact h.1
  | d :: ds, us, F, h => by
    have h : rMs K (M.im d :: ds.map M.im) us H F := h
    unfold rMs at h
    obtain ⟨w, ws, F1, F2, e, r, s, _⟩ := h
    unfold rM at r
    unfold rDs
    exact ⟨w, ws, e, r.1, rMs.imD s⟩
theorem AsB.nil (W : AsW C Γ Ts σ vs H fp) : AsB C Γ Ts σ vs [] [] H fp e0 := ⟨W, by unfold rMs; exact ⟨rfl, fun _ z => z⟩, fun _ => Dj.e0r, fun _ z => z.elim⟩
/-- the last value goes in at the head -/
theorem AsB.cons {ms : List M} {us : List V} {G : FS} (h : AsB C Γ (Ts ++ [t]) σ (vs ++ [v]) ms us H fp G) (r : rM C.K m v H (fp (.inr Ts.length))) :
    ∃ fq G', AsB C Γ Ts σ vs (m :: ms) (v :: us) H fq G' := by
  have W := h.w
  have ln : Ts.length = vs.length := by have := W.ln; simp at this; exact this
  let fq : Sum Nat Nat → FS := fun y => if y = .inr Ts.length then e0 else fp y
  have q0 : fq (.inr Ts.length) = e0 := if_pos rfl
  have q1 : ∀ y, y ≠ .inr Ts.length → fq y = fp y := fun y h => if_neg h
  have le : ∀ y a, fq y a → y ≠ .inr Ts.length ∧ fp y a := fun y a ha => by
    by_cases h1 : y = .inr Ts.length
    · subst h1; rw [q0] at ha; exact ha.elim
    · rw [q1 y h1] at ha; exact ⟨h1, ha⟩
  refine ⟨fq, fun a => fp (.inr Ts.length) a ∨ G a, ⟨W.lg, ln, fun i mi q => ?_, fun k t q => ?_, fun x y hxy a ha hb => W.dj x y hxy a (le x a ha).2 (le y a hb).2, fun x a ha => W.sn x a (le x a ha).2, fun x a ha => W.mu x a (le x a ha).2, W.fr, W.pn⟩, ?_, fun x a ha hb => ?_, fun a ha => ?_⟩
  · obtain ⟨v', r1, r2⟩ := W.sl i mi q
    exact ⟨v', r1, by rw [q1 (.inl i) (fun z => nomatch z)]; exact r2⟩
  · have hl : k < Ts.length := (List.getElem?_eq_some_iff.mp q).1
    obtain ⟨v', r1, r2⟩ := W.tp k t (by rw [app_left hl]; exact q)
    refine ⟨v', by rw [app_left (by omega)] at r1; exact r1, ?_⟩
    rw [q1 (.inr k) (fun z => by have := Sum.inr.inj z; omega)]
    exact r2
  · unfold rMs
    exact ⟨v, us, fp (.inr Ts.length), G, rfl, r, h.r, h.d _, fun a => Iff.rfl⟩
  · obtain ⟨h1, h2⟩ := le x a ha
    rcases hb with hb | hb
    · exact W.dj _ _ h1 a h2 hb
    · exact h.d x a h2 hb
  · rcases ha with ha | ha
    · exact W.sn _ a ha
    · exact h.s a ha
/-- the head goes onto the stack -/
theorem AsB.uncons {ms : List M} {us : List V} {u : V} {G : FS} (h : AsB C Γ Ts σ vs (m :: ms) (u :: us) H fp G) : ∃ fq G', AsB C Γ (Ts ++ [.own m]) σ (vs ++ [u]) ms us H fq G' := by
  have W := h.w
  have ln := W.ln
  have r := h.r
  unfold rMs at r
  obtain ⟨w, ws, F1, F2, e, r1, r2, dj, f⟩ := r
  cases e
  let fq : Sum Nat Nat → FS := fun y => if y = .inr Ts.length then F1 else fp y
  have q0 : fq (.inr Ts.length) = F1 := if_pos rfl
  have q1 : ∀ y, y ≠ .inr Ts.length → fq y = fp y := fun y h => if_neg h
  have le : ∀ y a, fq y a → (y = .inr Ts.length ∧ F1 a) ∨ (y ≠ .inr Ts.length ∧ fp y a) := fun y a ha => by
    by_cases h1 : y = .inr Ts.length
    · subst h1; rw [q0] at ha; exact .inl ⟨rfl, ha⟩
    · rw [q1 y h1] at ha; exact .inr ⟨h1, ha⟩
  refine ⟨fq, F2, ⟨W.lg, by simp [ln], fun i mi q => ?_, fun k t q => ?_, fun x y hxy a ha hb => ?_, fun x a ha => ?_, fun x a ha => ?_, W.fr, W.pn⟩, r2, fun x a ha hb => ?_, fun a ha => h.s a ((f a).2 (.inr ha))⟩
  · obtain ⟨v', z1, z2⟩ := W.sl i mi q
    exact ⟨v', z1, by rw [q1 (.inl i) (fun z => nomatch z)]; exact z2⟩
  · rcases app_get q with ⟨q, hl⟩ | ⟨z1, z2⟩
    · obtain ⟨v', s1, s2⟩ := W.tp k t q
      refine ⟨v', by rw [app_left (by omega)]; exact s1, ?_⟩
      rw [q1 (.inr k) (fun z => by have := Sum.inr.inj z; omega)]
      exact s2
    · subst z1 z2
      exact ⟨u, by rw [ln]; exact app_last, by rw [q0]; exact r1⟩
  · rcases le x a ha with ⟨h1, h2⟩ | ⟨h1, h2⟩
    · rcases le y a hb with ⟨g1, g2⟩ | ⟨g1, g2⟩
      · exact hxy (h1.trans g1.symm)
      · exact h.d y a g2 ((f a).2 (.inl h2))
    · rcases le y a hb with ⟨g1, g2⟩ | ⟨g1, g2⟩
      · exact h.d x a h2 ((f a).2 (.inl g2))
      · exact W.dj x y hxy a h2 g2
  · rcases le x a ha with ⟨h1, h2⟩ | ⟨h1, h2⟩
    · exact h.s a ((f a).2 (.inl h2))
    · exact W.sn x a h2
  · rcases le x a ha with ⟨h1, h2⟩ | ⟨h1, h2⟩
    · exact rM.mut r1 h2
    · exact W.mu x a h2
  · rcases le x a ha with ⟨h1, h2⟩ | ⟨h1, h2⟩
    · exact dj a h2 hb
    · exact h.d x a h2 ((f a).2 (.inr hb))
/-- what the several bear is changed -/
theorem AsB.chg {ms ms' : List M} {us us' : List V} {G G' : FS} (h : AsB C Γ Ts σ vs ms us H fp G) (f : Frm H G H') (r' : rMs C.K ms' us' H' G') (n : ∀ a, G' a → G a ∨ H a = none) : AsB C Γ Ts σ vs ms' us' H' fp G' := by
  have W := h.w
  have tf : TF H H' := f.tf fun a ha => rMs.mut h.r ha
  have k1 : ∀ x a, fp x a → H' a = H a := fun x a ha => by
    obtain ⟨u, hu⟩ := mut_some (W.mu x a ha)
    rw [hu]; exact f a u hu fun g => h.d x a ha g
  refine ⟨⟨W.lg, W.ln, fun i mi q => ?_, fun k t q => ?_, W.dj, W.sn, fun x a ha => by rw [k1 x a ha]; exact W.mu x a ha, fun a o q ni => ?_, W.pn⟩, r', fun x a ha hb => ?_, fun a ha => ?_⟩
  · obtain ⟨v', z1, z2⟩ := W.sl i mi q
    exact ⟨v', z1, rM.st tf (k1 _) z2⟩
  · obtain ⟨v', z1, z2⟩ := W.tp k t q
    exact ⟨v', z1, rT.st tf (k1 _) z2⟩
  · refine f a o (W.fr a o q ni) fun g => ?_
    rcases h.s a g with z | z
    · exact ni z
    · rw [q] at z; cases z
  · rcases n a hb with z | z
    · exact h.d x a ha z
    · obtain ⟨u, hu⟩ := mut_some (W.mu x a ha)
      rw [hu] at z; cases z
  · rcases n a ha with z | z
    · exact h.s a z
    · by_cases hi : C.io a
      · exact .inl hi
      · refine .inr ?_
        cases q : C.H0 a with
        | none => rfl
        | some o => rw [W.fr a o q hi] at z; cases z
theorem As.blob : ∀ {ts : List T} {ms : List M} {us : List V} {Ts : List T} {vs : List V}, ts.map T.mo = ms.map some → us.length = ts.length → As C Γ (Ts ++ ts) σ (vs ++ us) H →
    ∃ fp G, AsB C Γ Ts σ vs ms us H fp G ∧ ∀ (k j : Nat) (m : M), ts[k]? = some (.tk j m) → ∃ u, us[k]? = some u ∧ σ[j]? = some (some u)
  | [], [], us, Ts, vs, e, hl, ⟨fp, W⟩ => by
    have : us = [] := List.length_eq_zero_iff.mp hl
    subst this
    simp at W
    exact ⟨fp, e0, AsB.nil W, fun k j m q => by simp at q⟩
  | [], m :: ms, us, Ts, vs, e, hl, h => by simp at e
  | t :: ts, [], us, Ts, vs, e, hl, h => by simp at e
  | t :: ts, m :: ms, [], Ts, vs, e, hl, h => by simp at hl
  | t :: ts, m :: ms, u :: us, Ts, vs, e, hl, h => by
    have h' : As C Γ ((Ts ++ [t]) ++ ts) σ ((vs ++ [u]) ++ us) H := by simpa using h
    simp only [List.map_cons, List.cons.injEq] at e
    obtain ⟨fp, G, B, q⟩ := As.blob (ts := ts) (ms := ms) e.2 (by simpa using hl) h'
    have ln : Ts.length = vs.length := by have := B.w.ln; simp at this; exact this
    obtain ⟨v1, hv, r⟩ := B.w.tp Ts.length t app_last
    have ev : v1 = u := by rw [ln, app_last] at hv; exact (Option.some.inj hv).symm
    subst ev
    have rm : rM C.K m v1 H (fp (.inr Ts.length)) := by
      cases t with
      | own m' => cases e.1; exact r
      | tk j m' => cases e.1; exact r.2
      | al j => cases e.1
      | hid _ _ => cases e.1
      | hal _ _ => cases e.1
    obtain ⟨fq, G', B'⟩ := B.cons rm
    refine ⟨fq, G', B', fun k j m' hk => ?_⟩
    cases k with
    | zero =>
      simp at hk
      subst hk
      exact ⟨v1, rfl, r.1⟩
    | succ k => exact q k j m' (by simpa using hk)
theorem AsB.as {ms : List M} {us : List V} {G : FS} (h : AsB C Γ Ts σ vs ms us H fp G) : As C Γ Ts σ vs H := ⟨fp, h.w⟩
/-- the slots take back what was taken out of them -/
def putAll : Ctx → List (Option Nat) → List M → Ctx
  | Γ, [], _ => Γ
  | Γ, _, [] => Γ
  | Γ, some j :: js, m :: ms => putAll (Γ.set j (some m)) js ms
  | Γ, none :: js, _ :: ms => putAll Γ js ms
theorem AsB.putAll : ∀ {js : List (Option Nat)} {ms : List M} {us : List V} {Γ : Ctx} {fp : Sum Nat Nat → FS} {G : FS}, AsB C Γ Ts σ vs ms us H fp G →
    (∀ (k j : Nat), js[k]? = some (some j) → ∃ u, us[k]? = some u ∧ σ[j]? = some (some u)) → As C (putAll Γ js ms) Ts σ vs H
  | [], ms, us, Γ, fp, G, B, q => by unfold RL.putAll; exact B.as
  | j :: js, [], us, Γ, fp, G, B, q => by unfold RL.putAll; exact B.as
  | j :: js, m :: ms, us, Γ, fp, G, B, q => by
    have hus : ∃ u us', us = u :: us' := by
      have r := B.r
      unfold rMs at r
      obtain ⟨w, ws, _, _, e, _⟩ := r
      exact ⟨w, ws, e⟩
    obtain ⟨u, us', rfl⟩ := hus
    obtain ⟨fq, G', B'⟩ := B.uncons
    cases j with
    | none =>
      unfold RL.putAll
      have W := B'.w
      have ln : Ts.length = vs.length := by have := W.ln; simp at this; exact this
      refine AsB.putAll (fp := fq) (G := G') ⟨⟨W.lg, ln, W.sl, fun k t hk => ?_, W.dj, W.sn, W.mu, W.fr, W.pn⟩, B'.r, B'.d, B'.s⟩ fun k j hk => q (k + 1) j (by simpa using hk)
      have hl : k < Ts.length := (List.getElem?_eq_some_iff.mp hk).1
      obtain ⟨v', r1, r2⟩ := W.tp k t (by rw [app_left hl]; exact hk)
      exact ⟨v', by rw [app_left (by omega)] at r1; exact r1, r2⟩
    | some j =>
      unfold RL.putAll
      obtain ⟨u', hu', hσ⟩ := q 0 j rfl
      cases hu'
      have W := B'.w
      have ln : Ts.length = vs.length := by have := W.ln; simp at this; exact this
      obtain ⟨v1, hv, r⟩ := W.tp Ts.length _ app_last
      have ev : v1 = u := by rw [ln, app_last] at hv; exact (Option.some.inj hv).symm
      subst ev
      -- the value on top goes to the slot j, the rest stays
      let fz : Sum Nat Nat → FS := fun y => if y = .inl j then fq (.inr Ts.length) else if y = .inr Ts.length then e0 else fq y
      have q1 : fz (.inl j) = fq (.inr Ts.length) := if_pos rfl
      have q0 : fz (.inr Ts.length) = e0 := (if_neg (fun z => nomatch z)).trans (if_pos rfl)
      have q2 : ∀ y, y ≠ .inl j → y ≠ .inr Ts.length → fz y = fq y := fun y h1 h2 => (if_neg h1).trans (if_neg h2)
      have le : ∀ y a, fz y a → (y = .inl j ∧ fq (.inr Ts.length) a) ∨ (y ≠ .inl j ∧ y ≠ .inr Ts.length ∧ fq y a) := fun y a ha => by
        by_cases h1 : y = .inl j
        · subst h1; rw [q1] at ha; exact .inl ⟨rfl, ha⟩
        · by_cases h2 : y = .inr Ts.length
          · subst h2; rw [q0] at ha; exact ha.elim
          · rw [q2 y h1 h2] at ha; exact .inr ⟨h1, h2, ha⟩
      have ex : ∀ y a, fz y a → ∃ x, fq x a := fun y a ha => by
        rcases le y a ha with ⟨_, h⟩ | ⟨_, _, h⟩
        · exact ⟨_, h⟩
        · exact ⟨_, h⟩
      refine AsB.putAll (fp := fz) (G := G') ⟨⟨by simp [W.lg], ln, fun i mi hi => ?_, fun k t hk => ?_, fun x y hxy a ha hb => ?_, fun x a ha => ?_, fun x a ha => ?_, W.fr, W.pn⟩, B'.r, fun x a ha hb => ?_, B'.s⟩ fun k j hk => q (k + 1) j (by simpa using hk)
      · by_cases e : i = j
        · subst e
          have hl : i < Γ.length := by
            have := (List.getElem?_eq_some_iff.mp hi).1
            simpa using this
          rw [List.getElem?_set_self hl] at hi
          cases hi
          exact ⟨v1, hσ, by rw [q1]; exact r⟩
        · rw [List.getElem?_set_ne (Ne.symm e)] at hi
          obtain ⟨v', r1, r2⟩ := W.sl i mi hi
          exact ⟨v', r1, by rw [q2 (.inl i) (fun z => e (Sum.inl.inj z)) (fun z => nomatch z)]; exact r2⟩
      · have hl : k < Ts.length := (List.getElem?_eq_some_iff.mp hk).1
        obtain ⟨v', r1, r2⟩ := W.tp k t (by rw [app_left hl]; exact hk)
        refine ⟨v', by rw [app_left (by omega)] at r1; exact r1, ?_⟩
        rw [q2 (.inr k) (fun z => nomatch z) (fun z => by have := Sum.inr.inj z; omega)]
        exact r2
      · rcases le x a ha with ⟨h1, h2⟩ | ⟨h1, h2, h3⟩
        · rcases le y a hb with ⟨g1, g2⟩ | ⟨g1, g2, g3⟩
          · exact hxy (h1.trans g1.symm)
          · exact W.dj _ _ (Ne.symm g2) a h2 g3
        · rcases le y a hb with ⟨g1, g2⟩ | ⟨g1, g2, g3⟩
          · exact W.dj _ _ h2 a h3 g2
          · exact W.dj _ _ hxy a h3 g3
      · obtain ⟨y, h⟩ := ex x a ha
        exact W.sn y a h
      · obtain ⟨y, h⟩ := ex x a ha
        exact W.mu y a h
      · obtain ⟨y, h⟩ := ex x a ha
        exact B'.d y a h hb
end

/-! ### readings -/
def er (C : Cn) (Γ : Ctx) (Ts : List T) (Γ' : Ctx) (t : T) : TE := fun σ H Q => ∃ vs, As C Γ Ts σ vs H ∧ ∀ v H', As C Γ' (Ts ++ [t]) σ (vs ++ [v]) H' → Q v H'
def tr (C : Cn) (Γ : Ctx) (Ts : List T) (Γ' : Ctx) (b : Bool) : TT := fun σ H Q => ∃ vs, As C Γ Ts σ vs H ∧ ∀ H', As C Γ' Ts σ vs H' → Q b H'
def ar (C : Cn) (Γ : Ctx) (Ts : List T) (Γ' : Ctx) (ts : List T) : TA := fun σ H Q => ∃ vs, As C Γ Ts σ vs H ∧ ∀ us H', us.length = ts.length → As C Γ' (Ts ++ ts) σ (vs ++ us) H' → Q us H'
abbrev EE (X : Cx) (C : Cn) (Γ : Ctx) (Ts : List T) (e : Expr) (Γ' : Ctx) (t : T) : Prop := PE X e (er C Γ Ts Γ' t)
abbrev ET (X : Cx) (C : Cn) (Γ : Ctx) (Ts : List T) (e : Expr) (Γ' : Ctx) (b : Bool) : Prop := PT X e (tr C Γ Ts Γ' b)
abbrev EW (X : Cx) (C : Cn) (Γ : Ctx) (Ts : List T) (e : Expr) (Γ' : Ctx) (b : Bool) : Prop := PW X e (tr C Γ Ts Γ' b)
abbrev EA (X : Cx) (C : Cn) (Γ : Ctx) (Ts : List T) (es : List Expr) (Γ' : Ctx) (ts : List T) : Prop := PA X es (ar C Γ Ts Γ' ts)
/-- how a statement or a block ends -/
inductive O where
  | nx (Γ : Ctx) | bk (Γ : Ctx) | ct (Γ : Ctx) | rt (Γ : Ctx) (m : M)
def Cont (C : Cn) (Hs : List T) (o : O) (D : Ends) : Prop := match o with
  | .nx Γ => ∀ σ hs H, As C Γ Hs σ hs H → D.nx σ H
  | .bk Γ => ∀ σ hs H, As C Γ Hs σ hs H → D.bk σ H
  | .ct Γ => ∀ σ hs H, As C Γ Hs σ hs H → D.ct σ H
  | .rt Γ m => ∀ σ hs v H, As C Γ (Hs ++ [.own m]) σ (hs ++ [v]) H → D.rt v H
def sr (C : Cn) (Hs : List T) (Γ : Ctx) (o : O) : TS := fun D σ H => (∃ hs, As C Γ Hs σ hs H) ∧ Cont C Hs o D
abbrev SS (X : Cx) (C : Cn) (Hs : List T) (Γ : Ctx) (sts : List Stmt) (o : O) : Prop := PSs X sts (sr C Hs Γ o)
abbrev S1 (X : Cx) (C : Cn) (Hs : List T) (Γ : Ctx) (st : Stmt) (o : O) : Prop := PS X st (sr C Hs Γ o)

theorem _root_.L2.PE.wk {X : Cx} {e : Expr} {t t' : TE} (h : PE X e t) (w : ∀ σ H Q, t' σ H Q → t σ H Q) : PE X e t' := ⟨fun pins s σ H Q I q => h.run pins s σ H Q I (w _ _ _ q)⟩
theorem _root_.L2.PT.wk {X : Cx} {e : Expr} {t t' : TT} (h : PT X e t) (w : ∀ σ H Q, t' σ H Q → t σ H Q) : PT X e t' := ⟨fun pins s σ H Q I q => h.run pins s σ H Q I (w _ _ _ q)⟩
theorem _root_.L2.PW.wk {X : Cx} {e : Expr} {t t' : TT} (h : PW X e t) (w : ∀ σ H Q, t' σ H Q → t σ H Q) : PW X e t' := ⟨fun wh pins s σ H Q I q => h.run wh pins s σ H Q I (w _ _ _ q)⟩
theorem _root_.L2.PA.wk {X : Cx} {e : List Expr} {t t' : TA} (h : PA X e t) (w : ∀ σ H Q, t' σ H Q → t σ H Q) : PA X e t' := ⟨fun pos pins s σ H Q I q => h.run pos pins s σ H Q I (w _ _ _ q)⟩
theorem _root_.L2.PS.wk {X : Cx} {e : Stmt} {t t' : TS} (h : PS X e t) (w : ∀ σ H Q, t' Q σ H → t Q σ H) : PS X e t' := ⟨fun pins s σ H D I q => h.run pins s σ H D I (w _ _ _ q)⟩
theorem _root_.L2.PSs.wk {X : Cx} {e : List Stmt} {t t' : TS} (h : PSs X e t) (w : ∀ σ H Q, t' Q σ H → t Q σ H) : PSs X e t' := ⟨fun pins s σ H D I q => h.run pins s σ H D I (w _ _ _ q)⟩
theorem pt_never {X : Cx} {e : Expr} : PT X e (fun _ _ _ => False) := ⟨fun _ _ _ _ _ _ h => h.elim⟩
theorem pw_never {X : Cx} {e : Expr} : PW X e (fun _ _ _ => False) := ⟨fun _ _ _ _ _ _ _ h => h.elim⟩
theorem pe_never {X : Cx} {e : Expr} : PE X e (fun _ _ _ => False) := ⟨fun _ _ _ _ _ _ h => h.elim⟩
end RL

set_option maxHeartbeats 2000000
/-! RL4: expressions and tests -/
namespace RL
open PySem L2

section
variable {X : Cx} {C : Cn} {Γ Γ1 Γ2 Γ3 Γ' : Ctx} {Ts : List T} {t t1 t2 t3 : T} {ts : List T} {e a b c : Expr} {es rest : List Expr} {pos p p2 : Pos} {i j : Nat} {d d1 d2 d3 : D} {ds : List D} {m : M} {b1 b2 k : Bool}

/-! ### constants, names -/
theorem ee_int {n : Int} {j} : EE X C Γ Ts (.Constant (.int n) j pos) Γ (.im (.int n)) := pe_int.wk fun σ H Q ⟨vs, h, q⟩ => q _ H (h.pushIm Ext.refl (by unfold rD; rfl))
theorem ee_bl {j} : EE X C Γ Ts (.Constant (.bool k) j pos) Γ (.im (.bl k)) := pe_bl.wk fun σ H Q ⟨vs, h, q⟩ => q _ H (h.pushIm Ext.refl (by unfold rD; rfl))
theorem ee_non {j} : EE X C Γ Ts (.Constant .none j pos) Γ (.im .non) := pe_non.wk fun σ H Q ⟨vs, h, q⟩ => q _ H (h.pushIm Ext.refl (by unfold rD; rfl))
theorem ee_str {x : Str} {j} : EE X C Γ Ts (.Constant (.str x) j pos) Γ (.im (.str x)) := pe_str.wk fun σ H Q ⟨vs, h, q⟩ => q _ H (h.pushIm Ext.refl (by unfold rD; rfl))
theorem ee_var (i : Nat) (h : PE X e (tVar i)) (hi : Γ[i]? = some (some (.im d)) := by rfl) : EE X C Γ Ts e Γ (.im d) := h.wk fun σ H Q ⟨vs, h, q⟩ => by
  obtain ⟨v, hv, r⟩ := h.slotIm hi
  exact ⟨v, hv, q v H (h.pushIm Ext.refl r)⟩
theorem ee_al (i : Nat) (h : PE X e (tVar i)) (hi : Γ[i]? = some (some m) := by rfl) : EE X C Γ Ts e Γ (.al i) := h.wk fun σ H Q ⟨vs, h, q⟩ => by
  obtain ⟨v, hv, r⟩ := h.alias hi
  exact ⟨v, hv, q v H r⟩
theorem ee_tk (i : Nat) (h : PE X e (tVar i)) (hi : Γ[i]? = some (some m) := by rfl) : EE X C Γ Ts e (Γ.set i none) (.tk i m) := h.wk fun σ H Q ⟨vs, h, q⟩ => by
  obtain ⟨v, hv, r⟩ := h.take hi
  exact ⟨v, hv, q v H r⟩
theorem ee_mv (i : Nat) (h : PE X e (tVar i)) (hi : Γ[i]? = some (some m) := by rfl) : EE X C Γ Ts e (Γ.set i none) (.own m) := h.wk fun σ H Q ⟨vs, h, q⟩ => by
  obtain ⟨v, hv, r⟩ := h.take hi
  exact ⟨v, hv, q v H r.free⟩
/-- a constant of the module -/
theorem ee_cst {v : V} (h : PE X e (tC v)) (r : ∀ H, rD C.K d v H) : EE X C Γ Ts e Γ (.im d) := h.wk fun σ H Q ⟨vs, h, q⟩ => q _ H (h.pushIm Ext.refl (r H))

/-! ### arguments -/
theorem ea_nil : EA X C Γ Ts [] Γ [] := pa_nil.wk fun σ H Q ⟨vs, h, q⟩ => q [] H rfl (by simpa using h)
theorem ea_cons (h1 : EE X C Γ Ts e Γ1 t) (h2 : EA X C Γ1 (Ts ++ [t]) es Γ2 ts) (hs : starEach (e :: es) X.env = (false, eval e X.env) :: starEach es X.env := by rfl) : EA X C Γ Ts (e :: es) Γ2 (t :: ts) := (pa_cons h1 h2 hs).wk fun σ H Q ⟨vs, h, q⟩ =>
  ⟨vs, h, fun v H1 h1 => ⟨vs ++ [v], h1, fun us H2 hl h2 => q (v :: us) H2 (by simp [hl]) (by simpa using h2)⟩⟩

/-! ### operators by values -/
def R2S (C : Cn) (Γ : Ctx) (Ts : List T) (t1 t2 : T) (r : R2) (Γ' : Ctx) (t3 : T) : Prop :=
  ∀ σ vs x y H, As C Γ (Ts ++ [t1] ++ [t2]) σ (vs ++ [x] ++ [y]) H → ∀ Q : VK, (∀ z H', As C Γ' (Ts ++ [t3]) σ (vs ++ [z]) H' → Q z H') → r x y H Q
theorem op_wk {r : R2} (h1 : EE X C Γ Ts a Γ1 t1) (h2 : EE X C Γ1 (Ts ++ [t1]) b Γ2 t2) (hr : R2S C Γ2 Ts t1 t2 r Γ3 t3) {e : Expr} (h : PE X e (tOp r (er C Γ Ts Γ1 t1) (er C Γ1 (Ts ++ [t1]) Γ2 t2))) : EE X C Γ Ts e Γ3 t3 := h.wk fun σ H Q ⟨vs, h, q⟩ =>
  ⟨vs, h, fun x H1 h1 => ⟨vs ++ [x], h1, fun y H2 h2 => hr σ vs x y H2 h2 Q q⟩⟩
theorem ee_op {op : Operator} {r : R2} (ho : OpR X (binaryOp op) r) (h1 : EE X C Γ Ts a Γ1 t1) (h2 : EE X C Γ1 (Ts ++ [t1]) b Γ2 t2) (hr : R2S C Γ2 Ts t1 t2 r Γ3 t3) : EE X C Γ Ts (.BinOp a op b pos) Γ3 t3 := op_wk h1 h2 hr (pe_op ho h1 h2)
theorem ee_cmp {op : CmpOp} {r : R2} (ho : OpR X (compareOp op) r) (hm : behindInMarks op b = false) (h1 : EE X C Γ Ts a Γ1 t1) (h2 : EE X C Γ1 (Ts ++ [t1]) b Γ2 t2) (hr : R2S C Γ2 Ts t1 t2 r Γ3 t3) : EE X C Γ Ts (.Compare a [op] [b] pos) Γ3 t3 := op_wk h1 h2 hr (pe_cmpR ho h1 h2 hm)
theorem et_cmp {op : CmpOp} {r : R2} (ho : OpR X (compareOp op) r) (hm : behindInMarks op b = false) (h1 : EE X C Γ Ts a Γ1 t1) (h2 : EE X C Γ1 (Ts ++ [t1]) b Γ2 t2) (hr : R2S C Γ2 Ts t1 t2 r Γ3 (.im (.bl k))) : ET X C Γ Ts (.Compare a [op] [b] pos) Γ3 k := (pt_cmpR ho h1 h2 hm).wk fun σ H Q ⟨vs, h, q⟩ =>
  ⟨vs, h, fun x H1 h1 => ⟨vs ++ [x], h1, fun y H2 h2 => hr σ vs x y H2 h2 _ fun z H' hz => by
    have e := hz.topIm
    unfold rD at e
    exact ⟨k, e, q H' hz.pop⟩⟩⟩
theorem ee_ix {r : R2} (ho : IxR X r) (hs : PlainIx b) (h1 : EE X C Γ Ts a Γ1 t1) (h2 : EE X C Γ1 (Ts ++ [t1]) b Γ2 t2) (hr : R2S C Γ2 Ts t1 t2 r Γ3 t3) : EE X C Γ Ts (.Subscript a b pos) Γ3 t3 := op_wk h1 h2 hr (pe_ix ho h1 h2 hs)
theorem r2s_im {r : R2} (h : ∀ x y H, rD C.K d1 x H → rD C.K d2 y H → ∀ Q : VK, (∀ z, rD C.K d3 z H → Q z H) → r x y H Q) : R2S C Γ Ts (.im d1) (.im d2) r Γ (.im d3) := fun σ vs x y H hA Q q =>
  h x y H hA.pop.topIm hA.topIm Q fun z hz => q z H (hA.pop.pop.pushIm Ext.refl hz)
theorem r2s_imN {r : R2} (h : ∀ x y H, rD C.K d1 x H → rD C.K d2 y H → ∀ Q : VK, (∀ z H', Ext H H' → rD C.K d3 z H' → Q z H') → r x y H Q) : R2S C Γ Ts (.im d1) (.im d2) r Γ (.im d3) := fun σ vs x y H hA Q q =>
  h x y H hA.pop.topIm hA.topIm Q fun z H' e hz => q z H' ((hA.pop.pop.ext e).pushIm Ext.refl hz)
theorem r2s_int {n n' : Int} {g : Int → Int → V} (h : ∀ H, rD C.K d3 (g n n') H) : R2S C Γ Ts (.im (.int n)) (.im (.int n')) (rI0 g) Γ (.im d3) := r2s_im fun x y H hx hy Q q => by
  unfold rD at hx hy
  exact ⟨n, n', hx, hy, q _ (h H)⟩
theorem r2s_intC {n n' : Int} {G : Int → Int → Prop} {g : Int → Int → V} (hc : G n n') (h : ∀ H, rD C.K d3 (g n n') H) : R2S C Γ Ts (.im (.int n)) (.im (.int n')) (rI G g) Γ (.im d3) := r2s_im fun x y H hx hy Q q => by
  unfold rD at hx hy
  exact ⟨n, n', hx, hy, hc, q _ (h H)⟩
section
variable {n n' : Int}
theorem ee_add (h1 : EE X C Γ Ts a Γ1 (.im (.int n))) (h2 : EE X C Γ1 (Ts ++ [.im (.int n)]) b Γ2 (.im (.int n'))) : EE X C Γ Ts (.BinOp a .Add b pos) Γ2 (.im (.int (n + n'))) := ee_op op_add h1 h2 (r2s_int fun H => by unfold rD; rfl)
theorem ee_sub (h1 : EE X C Γ Ts a Γ1 (.im (.int n))) (h2 : EE X C Γ1 (Ts ++ [.im (.int n)]) b Γ2 (.im (.int n'))) : EE X C Γ Ts (.BinOp a .Sub b pos) Γ2 (.im (.int (n - n'))) := ee_op op_sub h1 h2 (r2s_int fun H => by unfold rD; rfl)
theorem ee_mul (hc : CMul n n') (h1 : EE X C Γ Ts a Γ1 (.im (.int n))) (h2 : EE X C Γ1 (Ts ++ [.im (.int n)]) b Γ2 (.im (.int n'))) : EE X C Γ Ts (.BinOp a .Mult b pos) Γ2 (.im (.int (n * n'))) := ee_op op_mul h1 h2 (r2s_intC hc fun H => by unfold rD; rfl)
theorem ee_mulW (hc : CMulW n n') (h1 : EE X C Γ Ts a Γ1 (.im (.int n))) (h2 : EE X C Γ1 (Ts ++ [.im (.int n)]) b Γ2 (.im (.int n'))) : EE X C Γ Ts (.BinOp a .Mult b pos) Γ2 (.im (.int (n * n'))) := ee_op op_mulW h1 h2 (r2s_intC hc fun H => by unfold rD; rfl)
theorem ee_fdivW (hc : CDivW n n') (h1 : EE X C Γ Ts a Γ1 (.im (.int n))) (h2 : EE X C Γ1 (Ts ++ [.im (.int n)]) b Γ2 (.im (.int n'))) : EE X C Γ Ts (.BinOp a .FloorDiv b pos) Γ2 (.im (.int (n / n'))) := ee_op op_fdivW h1 h2 (r2s_intC hc fun H => by unfold rD; rfl)
theorem ee_mod (hc : 0 < n') (h1 : EE X C Γ Ts a Γ1 (.im (.int n))) (h2 : EE X C Γ1 (Ts ++ [.im (.int n)]) b Γ2 (.im (.int n'))) : EE X C Γ Ts (.BinOp a .Mod b pos) Γ2 (.im (.int (n % n'))) := ee_op op_mod h1 h2 (r2s_intC hc fun H => by unfold rD; rfl)
theorem et_lt (h1 : EE X C Γ Ts a Γ1 (.im (.int n))) (h2 : EE X C Γ1 (Ts ++ [.im (.int n)]) b Γ2 (.im (.int n'))) : ET X C Γ Ts (.Compare a [.Lt] [b] pos) Γ2 (decide (n < n')) := et_cmp op_lt (nomark _) h1 h2 (r2s_int fun H => by unfold rD; rfl)
theorem et_le (h1 : EE X C Γ Ts a Γ1 (.im (.int n))) (h2 : EE X C Γ1 (Ts ++ [.im (.int n)]) b Γ2 (.im (.int n'))) : ET X C Γ Ts (.Compare a [.LtE] [b] pos) Γ2 (decide (n ≤ n')) := et_cmp op_le (nomark _) h1 h2 (r2s_int fun H => by unfold rD; rfl)
theorem et_gt (h1 : EE X C Γ Ts a Γ1 (.im (.int n))) (h2 : EE X C Γ1 (Ts ++ [.im (.int n)]) b Γ2 (.im (.int n'))) : ET X C Γ Ts (.Compare a [.Gt] [b] pos) Γ2 (decide (n' < n)) := et_cmp op_gt (nomark _) h1 h2 (r2s_int fun H => by unfold rD; rfl)
theorem et_ge (h1 : EE X C Γ Ts a Γ1 (.im (.int n))) (h2 : EE X C Γ1 (Ts ++ [.im (.int n)]) b Γ2 (.im (.int n'))) : ET X C Γ Ts (.Compare a [.GtE] [b] pos) Γ2 (decide (n' ≤ n)) := et_cmp op_ge (nomark _) h1 h2 (r2s_int fun H => by unfold rD; rfl)
theorem ee_lt (h1 : EE X C Γ Ts a Γ1 (.im (.int n))) (h2 : EE X C Γ1 (Ts ++ [.im (.int n)]) b Γ2 (.im (.int n'))) : EE X C Γ Ts (.Compare a [.Lt] [b] pos) Γ2 (.im (.bl (decide (n < n')))) := ee_cmp op_lt (nomark _) h1 h2 (r2s_int fun H => by unfold rD; rfl)
end
/-! ### == of data without depth -/
def D.sc : D → Option V
  | .non => some .non | .bl b => some (.bl b) | .int i => some (.int i) | .str s => some (.str s)
  | _ => none
theorem rD.sc {K : PySem.W.Frag} {H : Hp} {v w : V} (h : rD K d v H) (e : d.sc = some w) : v = w := by
  cases d <;> first | (cases e; unfold rD at h; exact h) | cases e
theorem r2s_eq {v w : V} (e1 : d1.sc = some v) (e2 : d2.sc = some w) (hs : scal v w = true) (hk : decide (v = w) = k) : R2S C Γ Ts (.im d1) (.im d2) rEq Γ (.im (.bl k)) := r2s_im fun x y H hx hy Q q => by
  have := hx.sc e1
  have := hy.sc e2
  subst x y
  exact ⟨hs, q _ (by rw [hk]; unfold rD; rfl)⟩
theorem r2s_ne {v w : V} (e1 : d1.sc = some v) (e2 : d2.sc = some w) (hs : scal v w = true) (hk : (!decide (v = w)) = k) : R2S C Γ Ts (.im d1) (.im d2) rNe Γ (.im (.bl k)) := r2s_im fun x y H hx hy Q q => by
  have := hx.sc e1
  have := hy.sc e2
  subst x y
  exact ⟨hs, q _ (by rw [hk]; unfold rD; rfl)⟩
theorem eq_dec {α : Type} [DecidableEq α] {x y : α} {P : Prop} [Decidable P] (h : P ↔ x = y) : decide P = decide (x = y) := by
  by_cases e : x = y
  · simp [e, h.2 e]
  · have : ¬ P := fun z => e (h.1 z)
    simp [e, this]
theorem et_eqI {n n' : Int} (h1 : EE X C Γ Ts a Γ1 (.im (.int n))) (h2 : EE X C Γ1 (Ts ++ [.im (.int n)]) b Γ2 (.im (.int n'))) : ET X C Γ Ts (.Compare a [.Eq] [b] pos) Γ2 (decide (n = n')) :=
  et_cmp op_eq (nomark _) h1 h2 (r2s_eq rfl rfl rfl (eq_dec ⟨fun z => by cases z; rfl, fun z => by rw [z]⟩))
theorem et_neI {n n' : Int} (h1 : EE X C Γ Ts a Γ1 (.im (.int n))) (h2 : EE X C Γ1 (Ts ++ [.im (.int n)]) b Γ2 (.im (.int n'))) : ET X C Γ Ts (.Compare a [.NotEq] [b] pos) Γ2 (!decide (n = n')) :=
  et_cmp op_ne (nomark _) h1 h2 (r2s_ne rfl rfl rfl (congrArg not (eq_dec ⟨fun z => by cases z; rfl, fun z => by rw [z]⟩)))
theorem et_eqS {n n' : Str} (h1 : EE X C Γ Ts a Γ1 (.im (.str n))) (h2 : EE X C Γ1 (Ts ++ [.im (.str n)]) b Γ2 (.im (.str n'))) : ET X C Γ Ts (.Compare a [.Eq] [b] pos) Γ2 (decide (n = n')) :=
  et_cmp op_eq (nomark _) h1 h2 (r2s_eq rfl rfl rfl (eq_dec ⟨fun z => by cases z; rfl, fun z => by rw [z]⟩))
theorem et_neS {n n' : Str} (h1 : EE X C Γ Ts a Γ1 (.im (.str n))) (h2 : EE X C Γ1 (Ts ++ [.im (.str n)]) b Γ2 (.im (.str n'))) : ET X C Γ Ts (.Compare a [.NotEq] [b] pos) Γ2 (!decide (n = n')) :=
  et_cmp op_ne (nomark _) h1 h2 (r2s_ne rfl rfl rfl (congrArg not (eq_dec ⟨fun z => by cases z; rfl, fun z => by rw [z]⟩)))
theorem ee_eqI {n n' : Int} (h1 : EE X C Γ Ts a Γ1 (.im (.int n))) (h2 : EE X C Γ1 (Ts ++ [.im (.int n)]) b Γ2 (.im (.int n'))) : EE X C Γ Ts (.Compare a [.Eq] [b] pos) Γ2 (.im (.bl (decide (n = n')))) :=
  ee_cmp op_eq (nomark _) h1 h2 (r2s_eq rfl rfl rfl (eq_dec ⟨fun z => by cases z; rfl, fun z => by rw [z]⟩))
theorem ee_eqS {n n' : Str} (h1 : EE X C Γ Ts a Γ1 (.im (.str n))) (h2 : EE X C Γ1 (Ts ++ [.im (.str n)]) b Γ2 (.im (.str n'))) : EE X C Γ Ts (.Compare a [.Eq] [b] pos) Γ2 (.im (.bl (decide (n = n')))) :=
  ee_cmp op_eq (nomark _) h1 h2 (r2s_eq rfl rfl rfl (eq_dec ⟨fun z => by cases z; rfl, fun z => by rw [z]⟩))

/-! ### tests -/
theorem et_val (h : EE X C Γ Ts e Γ1 (.im (.bl k))) (he : ∀ whole, isTrue e X.env whole = (do let v ← whole; standAt e.pos; holding [v] (truthy v)) := by intro _; rfl) : ET X C Γ Ts e Γ1 k := (pt_val h he).wk fun σ H Q ⟨vs, h, q⟩ =>
  ⟨vs, h, fun v H1 h1 => by
    have e := h1.topIm
    unfold rD at e
    exact ⟨k, e, q H1 h1.pop⟩⟩
theorem ee_isN (h : EE X C Γ Ts a Γ1 (.im d)) {j pos'} : EE X C Γ Ts (.Compare a [.Is] [.Constant .none j pos'] pos) Γ1 (.im (.bl (match d with | .non => true | _ => false))) := (pe_cmp (pc_isN h)).wk fun σ H Q ⟨vs, h, q⟩ =>
  ⟨vs, h, fun v H1 h1 => q _ H1 (h1.pop.pushIm Ext.refl (by
    have e := h1.topIm
    cases d <;> (unfold rD at e; unfold rD) <;> first | (obtain ⟨_, _, e, _⟩ := e; rw [e]; rfl) | (obtain ⟨_, _, _, e, _⟩ := e; rw [e]; rfl) | (rw [e]; rfl)))⟩
theorem et_isN (h : EE X C Γ Ts a Γ1 (.im d)) {j pos'} : ET X C Γ Ts (.Compare a [.Is] [.Constant .none j pos'] pos) Γ1 (match d with | .non => true | _ => false) := (pt_cmp (pc_isN h)).wk fun σ H Q ⟨vs, h, q⟩ =>
  ⟨vs, h, fun v H1 h1 => ⟨_, rfl, by
    have e := h1.topIm
    have z := q H1 h1.pop
    cases d <;> unfold rD at e <;> first | (obtain ⟨_, _, e, _⟩ := e; rw [e]; exact z) | (obtain ⟨_, _, _, e, _⟩ := e; rw [e]; exact z) | (rw [e]; exact z)⟩⟩
theorem ee_notN (h : EE X C Γ Ts a Γ1 (.im d)) {j pos'} : EE X C Γ Ts (.Compare a [.IsNot] [.Constant .none j pos'] pos) Γ1 (.im (.bl (match d with | .non => false | _ => true))) := (pe_cmp (pc_notN h)).wk fun σ H Q ⟨vs, h, q⟩ =>
  ⟨vs, h, fun v H1 h1 => q _ H1 (h1.pop.pushIm Ext.refl (by
    have e := h1.topIm
    cases d <;> (unfold rD at e; unfold rD) <;> first | (obtain ⟨_, _, e, _⟩ := e; rw [e]; rfl) | (obtain ⟨_, _, _, e, _⟩ := e; rw [e]; rfl) | (rw [e]; rfl)))⟩
theorem et_notN (h : EE X C Γ Ts a Γ1 (.im d)) {j pos'} : ET X C Γ Ts (.Compare a [.IsNot] [.Constant .none j pos'] pos) Γ1 (match d with | .non => false | _ => true) := (pt_cmp (pc_notN h)).wk fun σ H Q ⟨vs, h, q⟩ =>
  ⟨vs, h, fun v H1 h1 => ⟨_, rfl, by
    have e := h1.topIm
    have z := q H1 h1.pop
    cases d <;> unfold rD at e <;> first | (obtain ⟨_, _, e, _⟩ := e; rw [e]; exact z) | (obtain ⟨_, _, _, e, _⟩ := e; rw [e]; exact z) | (rw [e]; exact z)⟩⟩
theorem et_not (h : ET X C Γ Ts a Γ1 k) : ET X C Γ Ts (.UnaryOp .Not a pos) Γ1 (!k) := (pt_not h).wk fun σ H Q ⟨vs, h, q⟩ => ⟨vs, h, fun H1 h1 => q H1 h1⟩
/-- and: the rest is asked where the first holds -/
theorem ew_and (h1 : ET X C Γ Ts a Γ1 b1) (h2 : b1 = true → EW X C Γ1 Ts (.BoolOp .And (b :: rest) pos) Γ' k) (h3 : b1 = false → Γ' = Γ1 ∧ k = false) : EW X C Γ Ts (.BoolOp .And (a :: b :: rest) pos) Γ' k := by
  cases b1 with
  | true => exact (pw_and h1 (h2 rfl)).wk fun σ H Q ⟨vs, h, q⟩ => ⟨vs, h, fun H1 h1 => ⟨vs, h1, q⟩⟩
  | false =>
    obtain ⟨rfl, rfl⟩ := h3 rfl
    exact (pw_and h1 pw_never).wk fun σ H Q ⟨vs, h, q⟩ => ⟨vs, h, fun H1 h1 => q H1 h1⟩
theorem ew_or (h1 : ET X C Γ Ts a Γ1 b1) (h2 : b1 = false → EW X C Γ1 Ts (.BoolOp .Or (b :: rest) pos) Γ' k) (h3 : b1 = true → Γ' = Γ1 ∧ k = true) : EW X C Γ Ts (.BoolOp .Or (a :: b :: rest) pos) Γ' k := by
  cases b1 with
  | false => exact (pw_or h1 (h2 rfl)).wk fun σ H Q ⟨vs, h, q⟩ => ⟨vs, h, fun H1 h1 => ⟨vs, h1, q⟩⟩
  | true =>
    obtain ⟨rfl, rfl⟩ := h3 rfl
    exact (pw_or h1 pw_never).wk fun σ H Q ⟨vs, h, q⟩ => ⟨vs, h, fun H1 h1 => q H1 h1⟩
theorem ew_and1 (h : ET X C Γ Ts a Γ' k) : EW X C Γ Ts (.BoolOp .And [a] pos) Γ' k := pw_and1 h
theorem ew_or1 (h : ET X C Γ Ts a Γ' k) : EW X C Γ Ts (.BoolOp .Or [a] pos) Γ' k := pw_or1 h
/-- and, or that leave the state as it is -/
theorem ew_andP (h1 : ET X C Γ Ts a Γ b1) (h2 : b1 = true → EW X C Γ Ts (.BoolOp .And (b :: rest) pos) Γ k) : EW X C Γ Ts (.BoolOp .And (a :: b :: rest) pos) Γ (b1 && k) := ew_and h1 (fun e => by rw [e]; exact h2 e) fun e => ⟨rfl, by rw [e] <;> rfl⟩
theorem ew_orP (h1 : ET X C Γ Ts a Γ b1) (h2 : b1 = false → EW X C Γ Ts (.BoolOp .Or (b :: rest) pos) Γ k) : EW X C Γ Ts (.BoolOp .Or (a :: b :: rest) pos) Γ (b1 || k) := ew_or h1 (fun e => by rw [e]; exact h2 e) fun e => ⟨rfl, by rw [e] <;> rfl⟩
theorem ET.ofW (h : EW X C Γ Ts e Γ' k) : ET X C Γ Ts e Γ' k := h.pt
/-- and, or, not as values (all truths) -/
theorem ee_and (h1 : EE X C Γ Ts a Γ1 (.im (.bl b1))) (h2 : b1 = true → EE X C Γ1 Ts (.BoolOp .And (b :: rest) pos) Γ' (.im (.bl k))) (h3 : b1 = false → Γ' = Γ1 ∧ k = false) : EE X C Γ Ts (.BoolOp .And (a :: b :: rest) pos) Γ' (.im (.bl k)) := by
  cases b1 with
  | true => exact (pe_and h1 (h2 rfl)).wk fun σ H Q ⟨vs, h, q⟩ => ⟨vs, h, fun v H1 h1 => by
      have e := h1.topIm
      unfold rD at e
      exact ⟨true, e, vs, h1.pop, q⟩⟩
  | false =>
    obtain ⟨rfl, rfl⟩ := h3 rfl
    exact (pe_and h1 pe_never).wk fun σ H Q ⟨vs, h, q⟩ => ⟨vs, h, fun v H1 h1 => by
      have e := h1.topIm
      unfold rD at e
      exact ⟨false, e, q _ H1 (h1.pop.pushIm Ext.refl (by unfold rD; rfl))⟩⟩
theorem ee_or (h1 : EE X C Γ Ts a Γ1 (.im (.bl b1))) (h2 : b1 = false → EE X C Γ1 Ts (.BoolOp .Or (b :: rest) pos) Γ' (.im (.bl k))) (h3 : b1 = true → Γ' = Γ1 ∧ k = true) : EE X C Γ Ts (.BoolOp .Or (a :: b :: rest) pos) Γ' (.im (.bl k)) := by
  cases b1 with
  | false => exact (pe_or h1 (h2 rfl)).wk fun σ H Q ⟨vs, h, q⟩ => ⟨vs, h, fun v H1 h1 => by
      have e := h1.topIm
      unfold rD at e
      exact ⟨false, e, vs, h1.pop, q⟩⟩
  | true =>
    obtain ⟨rfl, rfl⟩ := h3 rfl
    exact (pe_or h1 pe_never).wk fun σ H Q ⟨vs, h, q⟩ => ⟨vs, h, fun v H1 h1 => by
      have e := h1.topIm
      unfold rD at e
      exact ⟨true, e, q _ H1 (h1.pop.pushIm Ext.refl (by unfold rD; rfl))⟩⟩
theorem ee_one {op} (h : EE X C Γ Ts a Γ' t) : EE X C Γ Ts (.BoolOp op [a] pos) Γ' t := pe_one h
theorem ee_andP (h1 : EE X C Γ Ts a Γ (.im (.bl b1))) (h2 : b1 = true → EE X C Γ Ts (.BoolOp .And (b :: rest) pos) Γ (.im (.bl k))) : EE X C Γ Ts (.BoolOp .And (a :: b :: rest) pos) Γ (.im (.bl (b1 && k))) := ee_and h1 (fun e => by rw [e]; exact h2 e) fun e => ⟨rfl, by rw [e] <;> rfl⟩
theorem ee_orP (h1 : EE X C Γ Ts a Γ (.im (.bl b1))) (h2 : b1 = false → EE X C Γ Ts (.BoolOp .Or (b :: rest) pos) Γ (.im (.bl k))) : EE X C Γ Ts (.BoolOp .Or (a :: b :: rest) pos) Γ (.im (.bl (b1 || k))) := ee_or h1 (fun e => by rw [e]; exact h2 e) fun e => ⟨rfl, by rw [e] <;> rfl⟩
theorem ee_not (h : EE X C Γ Ts a Γ1 (.im (.bl k))) : EE X C Γ Ts (.UnaryOp .Not a pos) Γ1 (.im (.bl (!k))) := (pe_not h).wk fun σ H Q ⟨vs, h, q⟩ => ⟨vs, h, fun v H1 h1 => by
  have e := h1.topIm
  unfold rD at e
  exact ⟨k, e, q _ H1 (h1.pop.pushIm Ext.refl (by unfold rD; rfl))⟩⟩
theorem ee_if (hc : ET X C Γ Ts c Γ1 k) (h1 : k = true → EE X C Γ1 Ts a Γ' t) (h2 : k = false → EE X C Γ1 Ts b Γ' t) : EE X C Γ Ts (.IfExp c a b pos) Γ' t := by
  cases k with
  | true => exact (pe_ifExp hc (h1 rfl) pe_never).wk fun σ H Q ⟨vs, h, q⟩ => ⟨vs, h, fun H1 h1 => ⟨vs, h1, q⟩⟩
  | false => exact (pe_ifExp hc pe_never (h2 rfl)).wk fun σ H Q ⟨vs, h, q⟩ => ⟨vs, h, fun H1 h1 => by
      show (if false = true then _ else _)
      rw [if_neg Bool.false_ne_true]
      exact ⟨vs, h1, q⟩⟩

/-! ### displays -/
theorem As.popAll : ∀ {ts : List T} {us vs : List V} {Ts : List T} {σ H}, us.length = ts.length → As C Γ (Ts ++ ts) σ (vs ++ us) H → As C Γ Ts σ vs H
  | [], us, vs, Ts, σ, H, hl, h => by
    have : us = [] := List.length_eq_zero_iff.mp hl
    subst this
    simpa using h
  | t :: ts, [], vs, Ts, σ, H, hl, h => by simp at hl
  | t :: ts, u :: us, vs, Ts, σ, H, hl, h => by
    have h' : As C Γ ((Ts ++ [t]) ++ ts) σ ((vs ++ [u]) ++ us) H := by simpa using h
    exact (As.popAll (by simpa using hl) h').pop
theorem As.ims {us vs : List V} {σ H} (hl : us.length = ds.length) (h : As C Γ (Ts ++ ds.map T.im) σ (vs ++ us) H) : rDs C.K ds us H ∧ As C Γ Ts σ vs H := by
  obtain ⟨fp, G, B, _⟩ := h.blob (ms := ds.map M.im) (by simp [List.map_map]; intro d hd; rfl) (by simpa using hl)
  exact ⟨B.r.imD, B.as⟩
theorem rDs.len {K : PySem.W.Frag} {H : Hp} : ∀ {ds : List D} {us : List V}, rDs K ds us H → us.length = ds.length
  | [], us, h => by unfold rDs at h; rw [h] <;> rfl
  | d :: ds, us, h => by
    unfold rDs at h
    obtain ⟨w, ws, e, r, s⟩ := h
    rw [e, List.length_cons, List.length_cons, s.len]
theorem ee_tup {x1} (h : EA X C Γ Ts es Γ1 (ds.map T.im)) (hl : ds.length ≤ 1000) : EE X C Γ Ts (.Tuple es x1 pos) Γ1 (.im (.tup ds)) := (pe_tup h).wk fun σ H Q ⟨vs, h, q⟩ => ⟨vs, h, fun us H1 l h1 => by
  have l' : us.length = ds.length := by simpa using l
  obtain ⟨r, h2⟩ := As.ims l' h1
  refine ⟨Nat.le_trans (by omega) (show 1000 ≤ sizeLine by decide), fun p hp => q _ _ (h2.pushIm (Ext.new hp) ?_)⟩
  unfold rD
  exact ⟨p, us, rfl, SqT.of upd_same, r.tf (Ext.new hp).tf⟩⟩
theorem ee_lst (h : EA X C Γ Ts es Γ1 (ds.map T.im)) (hl : ds.length ≤ 1000) : EE X C Γ Ts (.List es pos) Γ1 (.own (.li ds)) := (pe_lst h).wk fun σ H Q ⟨vs, h, q⟩ => ⟨vs, h, fun us H1 l h1 => by
  have l' : us.length = ds.length := by simpa using l
  obtain ⟨r, h2⟩ := As.ims l' h1
  refine ⟨Nat.le_trans (by omega) (show 1000 ≤ sizeLine by decide), fun p hp => q _ _ (h2.push (Ext.new hp) (t := .own (.li ds)) (F := fun a => a = p) ?_ (fun a e => by rw [e]; exact hp) fun a e => by rw [e, upd_same]; trivial)⟩
  show rM _ _ _ _ _
  unfold rM
  exact ⟨p, us, rfl, upd_same, r.tf (Ext.new hp).tf, fun b => Iff.rfl⟩⟩
/-! ### calls of built-ins by values -/
def CLS (C : Cn) (Γ : Ctx) (Ts ts : List T) (r : List V → Hp → VK → Prop) (Γ' : Ctx) (t : T) : Prop :=
  ∀ σ vs us H, us.length = ts.length → As C Γ (Ts ++ ts) σ (vs ++ us) H → ∀ Q : VK, (∀ z H', As C Γ' (Ts ++ [t]) σ (vs ++ [z]) H' → Q z H') → r us H Q
theorem cb_wk {r : List V → Hp → VK → Prop} (hr : CLS C Γ1 Ts ts r Γ2 t) {e : Expr} (h : PE X e (tCB r (ar C Γ Ts Γ1 ts))) : EE X C Γ Ts e Γ2 t := h.wk fun σ H Q ⟨vs, h, q⟩ =>
  ⟨vs, h, fun us H1 hl h1 => hr σ vs us H1 hl h1 Q q⟩
theorem cls_1 {r : List V → Hp → VK → Prop} (h : ∀ x H, rD C.K d1 x H → ∀ Q : VK, (∀ z, rD C.K d3 z H → Q z H) → r [x] H Q) : CLS C Γ Ts [.im d1] r Γ (.im d3) := fun σ vs us H hl hA Q q => by
  obtain ⟨u, rfl⟩ : ∃ u, us = [u] := List.length_eq_one_iff.mp hl
  exact h u H hA.topIm Q fun z hz => q z H (hA.pop.pushIm Ext.refl hz)
theorem cls_1N {r : List V → Hp → VK → Prop} (h : ∀ x H, rD C.K d1 x H → ∀ Q : VK, (∀ z H', Ext H H' → rD C.K d3 z H' → Q z H') → r [x] H Q) : CLS C Γ Ts [.im d1] r Γ (.im d3) := fun σ vs us H hl hA Q q => by
  obtain ⟨u, rfl⟩ : ∃ u, us = [u] := List.length_eq_one_iff.mp hl
  exact h u H hA.topIm Q fun z H' e hz => q z H' ((hA.pop.ext e).pushIm Ext.refl hz)
theorem cls_2 {r : List V → Hp → VK → Prop} (h : ∀ x y H, rD C.K d1 x H → rD C.K d2 y H → ∀ Q : VK, (∀ z, rD C.K d3 z H → Q z H) → r [x, y] H Q) : CLS C Γ Ts [.im d1, .im d2] r Γ (.im d3) := fun σ vs us H hl hA Q q => by
  obtain ⟨u, w, rfl⟩ : ∃ u w, us = [u, w] := match us, hl with | [u, w], _ => ⟨u, w, rfl⟩
  have hA' : As C Γ ((Ts ++ [.im d1]) ++ [.im d2]) σ ((vs ++ [u]) ++ [w]) H := by simpa using hA
  exact h u w H hA'.pop.topIm hA'.topIm Q fun z hz => q z H (hA'.pop.pop.pushIm Ext.refl hz)
end
end RL

set_option maxHeartbeats 2000000
/-! RL5: defs and their calls (where no guard of a text's making runs) -/
namespace RL
open PySem L2 PySem.Spec

/-- a def keeps its promise, called where no repr is under way -/
structure FnG (P : Program) (w : World) (K : PySem.W.Frag) (mg : Str → Option Value) (base : Heap) (k : Nat) (f : Addr) (fd : FuncData) (ps : List Str) (sp : Sp) : Prop where
  len : ∀ vs H Q E, sp vs H Q E → vs.length = ps.length
  go : ∀ (A : Around) (outer : List Env) (s : Shared) (H : Hp) (args : Args) (us : List Value) (vs : List V) (Q : VK) (E : XK), Room k A → A.guards = some [] → Env0 P w K mg base A outer s H → BindsTo s fd args (ps.zip us) → Vals vs us →
    sp vs H Q E → codeAny (model P w) A (.call (.ref f) args) (CR CX0 outer P w H s Q E) s
theorem FnG.mono {P : Program} {w : World} {K : PySem.W.Frag} {mg : Str → Option Value} {base : Heap} {j k : Nat} {f : Addr} {fd : FuncData} {ps : List Str} {sp : Sp} (F : FnG P w K mg base j f fd ps sp) (h : j ≤ k) : FnG P w K mg base k f fd ps sp :=
  ⟨F.len, fun A outer s H args us vs Q E hr => F.go A outer s H args us vs Q E (hr.mono h)⟩
theorem FnG.imp {P : Program} {w : World} {K : PySem.W.Frag} {mg : Str → Option Value} {base : Heap} {k : Nat} {f : Addr} {fd : FuncData} {ps : List Str} {sp sp' : Sp} (F : FnG P w K mg base k f fd ps sp) (h : ∀ vs H Q E, sp' vs H Q E → sp vs H Q E) : FnG P w K mg base k f fd ps sp' :=
  ⟨fun vs H Q E q => F.len vs H Q E (h _ _ _ _ q), fun A outer s H args us vs Q E hr hg he hb hv hs => F.go A outer s H args us vs Q E hr hg he hb hv (h _ _ _ _ hs)⟩
/-- from a body -/
theorem FnG.of {P : Program} {w : World} {K : PySem.W.Frag} {mg : Str → Option Value} {base : Heap} {k : Nat} {f : Addr} {x qual : Str} {params : Arguments} {body : List Stmt} {sc : Scope} {dV kV doc pm cdv ct oc : Value} {an od : Option Addr} {osl : Array (Option Value)} {N ps : List Str} {sp : Sp}
    (lk : K.lookup f = some ⟨oc, od, .func (PySem.W.fnOf x qual params body sc dV kV doc pm an cdv ct), osl⟩) (hcd : PySem.W.codeIn K cdv qual = true) (S : FnScope N ps sc) (len : ∀ vs H Q E, sp vs H Q E → vs.length = ps.length)
    (hbody : ∀ (A : Around) (outer : List Env) (s : Shared) (H : Hp) (vs : List V) (Q : VK) (E : XK), Room k (A.deeper (PyProof.Rows.envOfC qual sc s.heap.objs.size f cdv)) → A.guards = some [] → sp vs H Q E →
      ∃ t, PSs (cxOf CX0 P w K mg base N qual sc f cdv A outer s H E).nox body t ∧ t { nx := fun _ H' => Q .non H', rt := Q } (start N vs) H) :
    FnG P w K mg base (k + 1) f (PySem.W.fnOf x qual params body sc dV kV doc pm an cdv ct) ps sp := by
  constructor
  · exact len
  intro A outer s H args us vs Q E hr hg e0 hb rel hsp
  have hlen := len _ _ _ _ hsp
  have kin : K.In s.heap := e0.mod.kin.keeps (fun b o z => (e0.bs b o z).1)
  have nol : s.heap.NoLimit := e0.mod.nolimit.keeps (fun b o z => (e0.bs b o z).1)
  have kinds : ∀ y ∈ ps.zip us, sc.names.lookup y.1 = some .local ∨ (sc.names.lookup y.1 = some .cell ∧ ((cellsFrom (s.heap.objs.size + 1) sc.names []).lookup y.1).isSome = true) := by
    rintro ⟨n, v⟩ hy
    exact (S.par n (List.of_mem_zip hy).1).elim .inl fun z => .inr ⟨z, PySem.W.cellsFrom_some _ _ _ (.inl z)⟩
  refine codeAny_call_function hr.depth (kin _ _ lk) rfl S.co S.gen rfl (PySem.W.codeRec_of kin hcd) (hb _ _ _ _ ?_)
  refine wpAny_newFunctionEnv_cells S.kind kinds fun env he s1 made => ?_
  subst he
  refine ⟨nol.keeps made.toInCall.keep, codeAny_func ?_⟩
  obtain ⟨t, ht, hq⟩ := hbody A outer s H vs Q E (hr.deeper _) hg hsp
  have inv : Inv (cxOf CX0 P w K mg base N qual sc f cdv A outer s H E) [] (start N vs) H s1 := inv_start S hr.hd e0 hlen rel made
  refine wpAny_mono (ht.nox.run [] s1 (start N vs) H _ inv hq) (fun fl s' hs => ?_) (fun e s' hs => hs)
  cases fl with
  | next =>
    obtain ⟨σ', H', J, q⟩ := hs
    exact ⟨V.non, H', J.os, J.bare, J.base, J.hok, rfl, q⟩
  | ret u =>
    obtain ⟨v, σ', H', J, rv, q⟩ := hs
    exact ⟨v, H', J.os, J.bare, J.base, J.hok, rv, q⟩
  | brk =>
    obtain ⟨_, _, _, q⟩ := hs
    cases q
  | cont =>
    obtain ⟨_, _, _, q⟩ := hs
    cases q

section
variable {X : Cx} {k : Nat} {f : Addr} {fd : FuncData} {ps ks : List Str} {sp : Sp} {x : Str} {p pos : Pos} {e : Expr} {es : List Expr} {kws : List Keyword} {ta tk : TA} {gV : List V → List V → List V} {g : List Value → List Value → List Value}
/-- the callee runs, however its arguments have come -/
theorem runG {pins : List (Addr × Obj)} {σ : St} {H : Hp} {s : Shared} {Q : VK} {us ws : List Value} {kw : List (Str × Value)} {vs : List V} (F : FnG X.prog X.w X.K X.mg X.base k f fd ps sp) (hr : Room k X.A) (hg : X.A.guards = some [])
    (I : Inv X pins σ H s) (hb : us.length = ps.length → BindsTo s fd ⟨ws, kw⟩ (ps.zip us)) (r : Vals vs us) (h : sp vs H Q E0) : wpAny (model X.prog X.w) X.A (call (.ref f) ws kw) (EP X pins σ Q) X.xe s := by
  have hl : us.length = ps.length := r.length.symm.trans (F.len _ _ _ _ h)
  refine wpAny_call (codeAny_mono (F.go X.A X.stack s H ⟨ws, kw⟩ us vs Q E0 hr hg I.env0 (hb hl) r h) (fun r s' hq => ?_))
  match r, hq with
  | .ok (.ret u), hq => exact I.after hq
  | .ok .next, hq => exact hq.elim
  | .ok .brk, hq => exact hq.elim
  | .ok .cont, hq => exact hq.elim
  | .error e, hq => exact hq.elim
/-- f(a, ..) -/
theorem pe_callG (F : FnG X.prog X.w X.K X.mg X.base k f fd ps sp) (hr : Room k X.A) (hG : X.A.guards = some []) (hg : Gl X x) (hm : X.mg x = some (.ref f)) (hk : PySem.W.keepIn X.K (.ref f) = true) (hb : Binds X.K fd ps [])
    (ha : PA X (e :: es) ta) (hdb : (x == ("__debug__" : Str)) = false := by decide) (he : starEach (e :: es) X.env = (false, eval e X.env) :: starEach es X.env := by rfl) (hpl : (backTo pos (starEach es X.env)).any (·.1) = false := by rfl) :
    PE X (.Call (.Name x p) (e :: es) [] pos) (fun σ H Q => ta σ H fun vs H1 => sp vs H1 Q E0) := by
  constructor
  intro pins s σ H Q I h
  refine wpAny_Call_Name_kw (ld_glob I hg hm ?_ hdb)
  refine PySem.W.callWith_K (h₀ := X.base) I.ok.mod.kin hk (thn (ha.run pos pins s σ H _ I h) fun us s1 ⟨vs, H1, I1, r, q⟩ => ⟨I1.kIn, ?_⟩) he hpl
  exact runG F hr hG I1 (us := us) (fun hl => by simpa using hb s1 us I1.kIn (by simpa using hl)) r q
/-- f() -/
theorem pe_callG0 (F : FnG X.prog X.w X.K X.mg X.base k f fd ps sp) (hr : Room k X.A) (hG : X.A.guards = some []) (hg : Gl X x) (hm : X.mg x = some (.ref f)) (hk : PySem.W.keepIn X.K (.ref f) = true) (hb : Binds X.K fd ps [])
    (hdb : (x == ("__debug__" : Str)) = false := by decide) : PE X (.Call (.Name x p) [] [] pos) (fun σ H Q => sp [] H Q E0) := by
  constructor
  intro pins s σ H Q I h
  refine wpAny_Call_Name_kw (ld_glob I hg hm ?_ hdb)
  refine PySem.W.callWith_K0 I.kIn hk ?_
  exact runG F hr hG I (us := []) (fun hl => by simpa using hb s [] I.kIn (by simpa using hl)) .nil h
/-- f(a, .., k = b, ..) -/
theorem pe_callGK (F : FnG X.prog X.w X.K X.mg X.base k f fd ps sp) (hr : Room k X.A) (hG : X.A.guards = some []) (hg : Gl X x) (hm : X.mg x = some (.ref f)) (hk : PySem.W.keepIn X.K (.ref f) = true) (hb : KBinds X.K fd ps ks g gV)
    (ha : PA X (e :: es) ta) (hkw : PK X kws tk) (hall : (backToKw pos (keywordEach kws X.env)).all (·.1.isSome) = true := by rfl) (hks : (backToKw pos (keywordEach kws X.env)).filterMap (·.1) = ks := by rfl)
    (hdb : (x == ("__debug__" : Str)) = false := by decide) (he : starEach (e :: es) X.env = (false, eval e X.env) :: starEach es X.env := by rfl)
    (hpl : ((backTo pos (starEach (e :: es) X.env)).any (·.1) || (backToKw pos (keywordEach kws X.env)).any (·.1.isNone)) = false := by rfl) :
    PE X (.Call (.Name x p) (e :: es) kws pos) (fun σ H Q => ta σ H fun vs H1 => tk σ H1 fun zs H2 => sp (gV vs zs) H2 Q E0) := by
  constructor
  intro pins s σ H Q I h
  refine wpAny_Call_Name_kw (ld_glob I hg hm ?_ hdb)
  refine PySem.W.callWith_KW (h₀ := X.base) I.ok.mod.kin hk hall (thn (ha.run pos pins s σ H _ I h) fun us s1 ⟨vs, H1, I1, r, q⟩ => ?_) hpl he
  refine thn (hkw.run pos pins s1 σ H1 _ I1 q) fun ws s2 ⟨zs, H2, I2, rz, q2⟩ => ⟨I2.kIn, ?_⟩
  rw [hks]
  exact runG F hr hG I2 (us := g us ws) (fun hl => hb.to s2 us ws I2.kIn hl) (hb.rel r rz) q2
/-- f(k = b, ..) -/
theorem pe_callGK0 (F : FnG X.prog X.w X.K X.mg X.base k f fd ps sp) (hr : Room k X.A) (hG : X.A.guards = some []) (hg : Gl X x) (hm : X.mg x = some (.ref f)) (hk : PySem.W.keepIn X.K (.ref f) = true) (hb : KBinds X.K fd ps ks g gV)
    (hkw : PK X kws tk) (hall : (backToKw pos (keywordEach kws X.env)).all (·.1.isSome) = true := by rfl) (hks : (backToKw pos (keywordEach kws X.env)).filterMap (·.1) = ks := by rfl)
    (hdb : (x == ("__debug__" : Str)) = false := by decide) (hpl : ((backTo pos (starEach [] X.env)).any (·.1) || (backToKw pos (keywordEach kws X.env)).any (·.1.isNone)) = false := by rfl) :
    PE X (.Call (.Name x p) [] kws pos) (fun σ H Q => tk σ H fun zs H2 => sp (gV [] zs) H2 Q E0) := by
  constructor
  intro pins s σ H Q I h
  refine wpAny_Call_Name_kw (ld_glob I hg hm ?_ hdb)
  refine PySem.W.callWith_KW0 (h₀ := X.base) I.ok.mod.kin hk hall (thn (hkw.run pos pins s σ H _ I h) fun ws s2 ⟨zs, H2, I2, rz, q2⟩ => ⟨I2.kIn, ?_⟩) hpl
  rw [hks]
  exact runG F hr hG I2 (us := g [] ws) (fun hl => hb.to s2 [] ws I2.kIn hl) (hb.rel .nil rz) q2
end

/-! ### a def's promise over data -/
/-- called with ms it hands back r; the parameters at ios then bear ms' -/
def spR (K : PySem.W.Frag) (n : Nat) (ios : List Nat) (rel : List M → M → List M → Prop) : Sp := fun vs H Q _ => ∃ ms F r ms', vs.length = n ∧ rMs K ms vs H F ∧ rel ms r ms' ∧ ms'.length = ios.length ∧
  ∀ v H' F', rMs K (r :: ms') (v :: ios.map fun i => vs.getD i .non) H' F' → (∀ a, F' a → F a ∨ H a = none) → Frm H F H' → Q v H'
theorem spR_len {K : PySem.W.Frag} {n : Nat} {ios : List Nat} {rel : List M → M → List M → Prop} {ps : List Str} (h : n = ps.length) : ∀ vs H Q E, spR K n ios rel vs H Q E → vs.length = ps.length := fun vs H Q E ⟨_, _, _, _, e, _⟩ => e.trans h

section
variable {X : Cx} {C : Cn} {Γ Γ1 Γ2 : Ctx} {Ts ts : List T} {k n : Nat} {f : Addr} {fd : FuncData} {ps ks : List Str} {x : Str} {p pos : Pos} {e : Expr} {es : List Expr} {ios : List Nat} {rel : List M → M → List M → Prop} {ms ms' : List M} {r : M}
/-- which slots take back what comes back -/
def jsOf (ts : List T) (ios : List Nat) : List (Option Nat) := ios.map fun i => match (ts[i]? : Option RL.T) with
  | some (.tk j _) => some j
  | _ => none
theorem spR_use {σ : St} {vs us : List V} {H : Hp} {Q : VK} (hK : X.K = C.K) (hl : us.length = ts.length) (hn : ts.length = n) (hm : ts.map T.mo = ms.map some) (hrel : rel ms r ms') (hms : ms'.length = ios.length) (h : As C Γ (Ts ++ ts) σ (vs ++ us) H)
    (q : ∀ v H', As C (putAll Γ (jsOf ts ios) ms') (Ts ++ [.own r]) σ (vs ++ [v]) H' → Q v H') : spR X.K n ios rel us H Q E0 := by
  obtain ⟨fp, G, B, tk⟩ := As.blob hm hl h
  rw [hK]
  refine ⟨ms, G, r, ms', hl.trans hn, B.r, hrel, hms, fun v H' F' h1 h2 h3 => q v H' ?_⟩
  obtain ⟨fq, G', B'⟩ := (B.chg h3 h1 h2).uncons
  refine B'.putAll fun i j hi => ?_
  unfold jsOf at hi
  rw [List.getElem?_map] at hi
  cases e : ios[i]? with
  | none => rw [e] at hi; simp at hi
  | some l =>
    rw [e] at hi
    simp only [Option.map_some, Option.some.injEq] at hi
    cases e2 : ts[l]? with
    | none => rw [e2] at hi; cases hi
    | some t =>
      rw [e2] at hi
      cases t with
      | own m => cases hi
      | al j => cases hi
      | hid _ _ => cases hi
      | hal _ _ => cases hi
      | tk j' m =>
        cases hi
        obtain ⟨u, hu, hs⟩ := tk l j m e2
        refine ⟨u, ?_, hs⟩
        rw [List.getElem?_map, e]
        show some (us.getD l .non) = some u
        rw [List.getD_eq_getElem?_getD, hu] <;> rfl
theorem ee_call (F : FnG X.prog X.w X.K X.mg X.base k f fd ps (spR X.K n ios rel)) (hr : Room k X.A) (hG : X.A.guards = some []) (hm : X.mg x = some (.ref f)) (hk : PySem.W.keepIn X.K (.ref f) = true) (hb : Binds X.K fd ps [])
    (ha : EA X C Γ Ts (e :: es) Γ1 ts) (hrel : rel ms r ms') (hg : Gl X x := by rfl) (hK : X.K = C.K := by rfl) (hn : ts.length = n := by rfl) (hms : ts.map T.mo = ms.map some := by rfl) (hl : ms'.length = ios.length := by rfl) (hdb : (x == ("__debug__" : Str)) = false := by decide)
    (he : starEach (e :: es) X.env = (false, eval e X.env) :: starEach es X.env := by rfl) (hpl : (backTo pos (starEach es X.env)).any (·.1) = false := by rfl) :
    EE X C Γ Ts (.Call (.Name x p) (e :: es) [] pos) (putAll Γ1 (jsOf ts ios) ms') (.own r) :=
  (pe_callG F hr hG hg hm hk hb ha hdb he hpl).wk fun σ H Q ⟨vs, h, q⟩ => ⟨vs, h, fun us H1 l h1 => spR_use hK l hn hms hrel hl h1 q⟩
/-- all by names, data alone -/
inductive EK (X : Cx) (C : Cn) : Ctx → List T → List Keyword → List D → TA → Prop where
  | mk {Γ Ts kws ds tk} (h : PK X kws tk) (w : ∀ σ H vs (Q : List V → Hp → Prop), As C Γ Ts σ vs H → (∀ zs H', Ext H H' → rDs C.K ds zs H' → Q zs H') → tk σ H Q) : EK X C Γ Ts kws ds tk
end
end RL

set_option maxHeartbeats 2000000
/-! RL6: statements, loops, comprehensions -/
namespace RL
open PySem L2

/-! ### less is told -/
def wkL : Ctx → Ctx → Prop
  | [], [] => True
  | none :: a, _ :: b => wkL a b
  | some m :: a, x :: b => x = some m ∧ wkL a b
  | _, _ => False
theorem wkL.of : ∀ {a b : Ctx}, wkL a b → a.length = b.length ∧ ∀ (i : Nat) (m : M), a[i]? = some (some m) → b[i]? = some (some m)
  | [], [], _ => ⟨rfl, fun i m e => by simp at e⟩
  | none :: a, x :: b, h => by
    obtain ⟨h1, h2⟩ := wkL.of (a := a) (b := b) h
    refine ⟨by simp [h1], fun i m e => ?_⟩
    cases i with
    | zero => simp at e
    | succ i => simpa using h2 i m (by simpa using e)
  | some y :: a, x :: b, h => by
    obtain ⟨h0, h⟩ := h
    obtain ⟨h1, h2⟩ := wkL.of (a := a) (b := b) h
    refine ⟨by simp [h1], fun i m e => ?_⟩
    cases i with
    | zero => simp at e; subst e; simp [h0]
    | succ i => simpa using h2 i m (by simpa using e)
  | [], _ :: _, h => h.elim
  | _ :: _, [], h => by rename_i x _; cases x <;> exact h.elim
theorem As.wk {C : Cn} {Γ Γ' : Ctx} {Ts : List T} {σ : L2.St} {vs : List V} {H : Hp} (h : As C Γ Ts σ vs H) (w : wkL Γ' Γ) : As C Γ' Ts σ vs H := h.weak w.of.1 w.of.2

section
variable {X : Cx} {C : Cn} {Γ Γ1 Γ2 Γ3 Γ' : Ctx} {Ts Hs : List T} {t t1 t2 t3 : T} {ts : List T} {e a b c tg iter : Expr} {es rest : List Expr} {pos p p2 : Pos} {i j : Nat} {d d1 d2 d3 : D} {ds : List D} {m : M} {b1 b2 k : Bool} {st : Stmt} {sts body els : List Stmt} {o o' : O}
theorem ee_wk (h : EE X C Γ Ts e Γ1 t) (w : wkL Γ2 Γ1) : EE X C Γ Ts e Γ2 t := h.wk fun σ H Q ⟨vs, h, q⟩ => ⟨vs, h, fun v H' h' => q v H' (h'.wk w)⟩
theorem ee_wk0 (w : wkL Γ1 Γ) (h : EE X C Γ1 Ts e Γ2 t) : EE X C Γ Ts e Γ2 t := h.wk fun σ H Q ⟨vs, h, q⟩ => ⟨vs, h.wk w, q⟩
theorem et_wk (h : ET X C Γ Ts e Γ1 k) (w : wkL Γ2 Γ1) : ET X C Γ Ts e Γ2 k := h.wk fun σ H Q ⟨vs, h, q⟩ => ⟨vs, h, fun H' h' => q H' (h'.wk w)⟩

/-! ### blocks -/
theorem ss_nil (w : wkL Γ' Γ) : SS X C Hs Γ [] (.nx Γ') := pss_nil.wk fun σ H D ⟨⟨hs, h⟩, q⟩ => q σ hs H (h.wk w)
theorem ss_cons (h1 : S1 X C Hs Γ st (.nx Γ1)) (h2 : SS X C Hs Γ1 sts o) : SS X C Hs Γ (st :: sts) o := (pss_cons h1 h2).wk fun σ H D ⟨h, q⟩ => ⟨h, fun σ' hs H' h' => ⟨⟨hs, h'⟩, q⟩⟩
def O.isNx : O → Bool
  | .nx _ => true
  | _ => false
/-- behind it nothing of the block is reached -/
theorem ss_exit (h1 : S1 X C Hs Γ st o) (ho : o.isNx = false) : SS X C Hs Γ (st :: sts) o := (pss_cons h1 pss_never).wk fun σ H D ⟨h, q⟩ => ⟨h, by
  cases o with
  | nx Γ => cases ho
  | bk Γ => exact q
  | ct Γ => exact q
  | rt Γ m => exact q⟩
theorem ss_one (h1 : S1 X C Hs Γ st o) : SS X C Hs Γ [st] o := pss_one h1
theorem ss_wk0 (w : wkL Γ1 Γ) (h : SS X C Hs Γ1 sts o) : SS X C Hs Γ sts o := h.wk fun σ H D ⟨⟨hs, h⟩, q⟩ => ⟨⟨hs, h.wk w⟩, q⟩
theorem s_wk0 (w : wkL Γ1 Γ) (h : S1 X C Hs Γ1 st o) : S1 X C Hs Γ st o := h.wk fun σ H D ⟨⟨hs, h⟩, q⟩ => ⟨⟨hs, h.wk w⟩, q⟩
theorem ss_to (h : SS X C Hs Γ sts o) (e : o = o') : SS X C Hs Γ sts o' := e ▸ h
/-! ### statements -/
theorem s_if (hc : ET X C Γ Hs c Γ1 k) (h1 : k = true → SS X C Hs Γ1 body o) (h2 : k = false → SS X C Hs Γ1 els o) : S1 X C Hs Γ (.If c body els pos) o := by
  cases k with
  | true => exact (ps_if hc (h1 rfl) pss_never).wk fun σ H D ⟨⟨hs, h⟩, q⟩ => ⟨hs, h, fun H1 h1 => ⟨⟨hs, h1⟩, q⟩⟩
  | false => exact (ps_if hc pss_never (h2 rfl)).wk fun σ H D ⟨⟨hs, h⟩, q⟩ => ⟨hs, h, fun H1 h1 => by
      show (if false = true then _ else _)
      rw [if_neg Bool.false_ne_true]
      exact ⟨⟨hs, h1⟩, q⟩⟩
theorem s_expr (h : EE X C Γ Hs e Γ1 t) (hs : swapsWith e none pos.line X.env = pure false := by rfl) : S1 X C Hs Γ (.Expr e pos) (.nx Γ1) := (ps_expr h hs).wk fun σ H D ⟨⟨hs, h⟩, q⟩ => ⟨hs, h, fun v H1 h1 => q σ hs H1 h1.pop⟩
theorem s_ret (h : EE X C Γ Hs e Γ1 (.own m)) (w : wkL Γ' Γ1) : S1 X C Hs Γ (.Return (some e) pos) (.rt Γ' m) := (ps_ret h).wk fun σ H D ⟨⟨hs, h⟩, q⟩ => ⟨hs, h, fun v H1 h1 => q σ hs v H1 (h1.wk w)⟩
theorem s_brk (w : wkL Γ' Γ) : S1 X C Hs Γ (.Break pos) (.bk Γ') := ps_break.wk fun σ H D ⟨⟨hs, h⟩, q⟩ => q σ hs H (h.wk w)
theorem s_cnt (w : wkL Γ' Γ) : S1 X C Hs Γ (.Continue pos) (.ct Γ') := ps_continue.wk fun σ H D ⟨⟨hs, h⟩, q⟩ => q σ hs H (h.wk w)
theorem s_pass (w : wkL Γ' Γ) : S1 X C Hs Γ (.Pass pos) (.nx Γ') := ps_pass.wk fun σ H D ⟨⟨hs, h⟩, q⟩ => q σ hs H (h.wk w)
theorem s_set (i : Nat) {x : Str} {pos' : Pos} (hN : X.N.Nodup) (hi : X.N[i]? = some x) (hx : Loc X.env.scope x) (hp : ∀ p ∈ C.pin, p.1 ≠ i) (h : EE X C Γ Hs e Γ1 (.own m)) (hf : Free i Hs)
    (hs : swapsWith e (some (.Name x pos')) pos.line X.env = pure false := by rfl) (hn : X.fn x = true ∨ X.env.scope.names.lookup x = some .local := by first | exact .inl rfl | exact .inr rfl) :
    S1 X C Hs Γ (.Assign [.Name x pos'] e pos) (.nx (Γ1.set i (some m))) := (ps_set hN hi hx h hs hn).wk fun σ H D ⟨⟨hs, h⟩, q⟩ => ⟨hs, h, fun v H1 h1 => q _ hs H1 (h1.set hp hf)⟩

/-! ### targets -/
def Agree (J : List Nat) (σ σ' : L2.St) : Prop := σ'.length = σ.length ∧ ∀ i, i ∉ J → σ'[i]? = σ[i]?
theorem Agree.refl {J : List Nat} {σ : L2.St} : Agree J σ σ := ⟨rfl, fun _ _ => rfl⟩
theorem Agree.trans {J : List Nat} {σ σ1 σ2 : L2.St} (a : Agree J σ σ1) (b : Agree J σ1 σ2) : Agree J σ σ2 := ⟨b.1.trans a.1, fun i h => (b.2 i h).trans (a.2 i h)⟩
def gr (C : Cn) (Γ : Ctx) (Hs : List T) (d : D) (Γ' : Ctx) (J : List Nat) : TG := fun v σ H Q => ∃ hs, As C Γ Hs σ hs H ∧ rD C.K d v H ∧ ∀ σ', Agree J σ σ' → As C Γ' Hs σ' hs H → Q σ' H
abbrev GT (X : Cx) (C : Cn) (Hs : List T) (Γ : Ctx) (tg : Expr) (d : D) (Γ' : Ctx) (J : List Nat) : Prop := PG X tg (gr C Γ Hs d Γ' J)
def grs (C : Cn) (Γ : Ctx) (Hs : List T) (ds : List D) (Γ' : Ctx) (J : List Nat) : TGs := fun vs σ H Q => ∃ hs, As C Γ Hs σ hs H ∧ rDs C.K ds vs H ∧ ∀ σ', Agree J σ σ' → As C Γ' Hs σ' hs H → Q σ' H
abbrev GTs (X : Cx) (C : Cn) (Hs : List T) (Γ : Ctx) (tgs : List Expr) (ds : List D) (Γ' : Ctx) (J : List Nat) : Prop := PGs X tgs (grs C Γ Hs ds Γ' J)
theorem _root_.L2.PG.wk {X : Cx} {e : Expr} {t t' : TG} (h : PG X e t) (w : ∀ v σ H Q, t' v σ H Q → t v σ H Q) : PG X e t' := ⟨fun pins s σ H x u Q I r q => h.run pins s σ H x u Q I r (w _ _ _ _ q)⟩
theorem _root_.L2.PGs.wk {X : Cx} {e : List Expr} {t t' : TGs} (h : PGs X e t) (w : ∀ v σ H Q, t' v σ H Q → t v σ H Q) : PGs X e t' := ⟨fun pins s σ H x u Q I r q => h.run pins s σ H x u Q I r (w _ _ _ _ q)⟩
theorem gt_name (i : Nat) {x : Str} {J : List Nat} (hN : X.N.Nodup) (hi : X.N[i]? = some x) (hx : Loc X.env.scope x) (hp : ∀ p ∈ C.pin, p.1 ≠ i) (hf : Free i Hs) (hJ : i ∈ J) (hn : X.fn x = true ∨ X.env.scope.names.lookup x = some .local := by first | exact .inl rfl | exact .inr rfl) :
    GT X C Hs Γ (.Name x pos) d (Γ.set i (some (.im d))) J := (pg_name hN hi hx hn).wk fun v σ H Q ⟨hs, h, r, q⟩ => q _ ⟨by simp, fun k hk => List.getElem?_set_ne (fun e => hk (by rw [← e]; exact hJ))⟩ (h.setIm r hp hf)
theorem gts_nil {J : List Nat} : GTs X C Hs Γ [] [] Γ J := pgs_nil.wk fun v σ H Q ⟨hs, h, r, q⟩ => by
  unfold rDs at r
  exact ⟨r, q σ Agree.refl h⟩
theorem gts_cons {J : List Nat} (h1 : GT X C Hs Γ e d Γ1 J) (h2 : GTs X C Hs Γ1 es ds Γ2 J) (hs : (assignEach (e :: es) X.env).map (·.2) = assign e X.env :: (assignEach es X.env).map (·.2) := by rfl) : GTs X C Hs Γ (e :: es) (d :: ds) Γ2 J := (pgs_cons h1 h2 hs).wk fun v σ H Q ⟨hs, h, r, q⟩ => by
  unfold rDs at r
  obtain ⟨w, ws, e1, r1, r2⟩ := r
  exact ⟨w, ws, e1, hs, h, r1, fun σ1 a1 h1 => ⟨hs, h1, r2, fun σ2 a2 h2 => q σ2 (a1.trans a2) h2⟩⟩
theorem gt_tup {J : List Nat} {kk : Nat} (hc : X.calm = true) (h : GTs X C Hs Γ es ds Γ1 J) (hK : X.K = C.K := by rfl) (hn : (assignEach es X.env).length = ds.length := by rfl) (hst : (assignEach es X.env).findIdx? (·.1) = none := by rfl) : GT X C Hs Γ (.Tuple es kk pos) (.tup ds) Γ1 J := (pg_tup hc h hn hst).wk fun v σ H Q ⟨hs, h, r, q⟩ => by
  unfold rD at r
  obtain ⟨a, vs, e1, r1, r2⟩ := r
  exact ⟨a, vs, e1, by rw [hK]; exact r1, r2.len, hs, h, r2, q⟩

/-! ### families of readings -/
theorem _root_.L2.PT.ex {X : Cx} {ι : Type} {e : Expr} {t : ι → TT} {P : ι → Prop} (h : ∀ i, P i → PT X e (t i)) : PT X e (fun σ H Q => ∃ i, P i ∧ t i σ H Q) := ⟨fun pins s σ H Q I ⟨i, p, q⟩ => (h i p).run pins s σ H Q I q⟩
theorem _root_.L2.PE.ex {X : Cx} {ι : Type} {e : Expr} {t : ι → TE} {P : ι → Prop} (h : ∀ i, P i → PE X e (t i)) : PE X e (fun σ H Q => ∃ i, P i ∧ t i σ H Q) := ⟨fun pins s σ H Q I ⟨i, p, q⟩ => (h i p).run pins s σ H Q I q⟩
theorem _root_.L2.PTs.ex {X : Cx} {ι : Type} {e : List Expr} {t : ι → TT} {P : ι → Prop} (h : ∀ i, P i → PTs X e (t i)) : PTs X e (fun σ H Q => ∃ i, P i ∧ t i σ H Q) := ⟨fun pins s σ H Q I ⟨i, p, q⟩ => (h i p).run pins s σ H Q I q⟩
theorem _root_.L2.PTs.wk {X : Cx} {e : List Expr} {t t' : TT} (h : PTs X e t) (w : ∀ σ H Q, t' σ H Q → t σ H Q) : PTs X e t' := ⟨fun pins s σ H Q I q => h.run pins s σ H Q I (w _ _ _ q)⟩
theorem _root_.L2.PSs.ex {X : Cx} {ι : Type} {e : List Stmt} {t : ι → TS} {P : ι → Prop} (h : ∀ i, P i → PSs X e (t i)) : PSs X e (fun D σ H => ∃ i, P i ∧ t i D σ H) := ⟨fun pins s σ H D I ⟨i, p, q⟩ => (h i p).run pins s σ H D I q⟩
theorem _root_.L2.PG.ex {X : Cx} {ι : Type} {e : Expr} {t : ι → TG} {P : ι → Prop} (h : ∀ i, P i → PG X e (t i)) : PG X e (fun v σ H Q => ∃ i, P i ∧ t i v σ H Q) := ⟨fun pins s σ H x u Q I r ⟨i, p, q⟩ => (h i p).run pins s σ H x u Q I r q⟩
theorem _root_.L2.PI.wk {X : Cx} {tg iter : Expr} {t t' : TI} (h : PI X tg iter t) (w : ∀ σ H Q, t' σ H Q → t σ H Q) : PI X tg iter t' := ⟨fun pins s σ H Q I q => h.run pins s σ H Q I (w _ _ _ q)⟩
end

/-! ### loops over plain data: what they come to -/
inductive Out (S R : Type) where
  | nx (s : S) | bk (s : S) | ct (s : S) | rt (r : R)
def forO {S R α : Type} (f : S → α → Option (Out S R)) : S → List α → Option (Out S R)
  | s, [] => some (.nx s)
  | s, x :: xs => match f s x with
    | none => none
    | some (.nx s') => forO f s' xs
    | some (.ct s') => forO f s' xs
    | some (.bk s') => some (.nx s')
    | some (.rt r) => some (.rt r)
def forS {S α : Type} (f : S → α → Option S) : S → List α → Option S
  | s, [] => some s
  | s, x :: xs => (f s x).bind fun s' => forS f s' xs
def whO {S R : Type} (c : S → Bool) (f : S → Option (Out S R)) : Nat → S → Option (Out S R)
  | 0, _ => none
  | n + 1, s => if c s = true then match f s with
    | none => none
    | some (.nx s') => whO c f n s'
    | some (.ct s') => whO c f n s'
    | some (.bk s') => some (.nx s')
    | some (.rt r) => some (.rt r)
    else some (.nx s)
def whS {S : Type} (c : S → Bool) (f : S → Option S) : Nat → S → Option S
  | 0, _ => none
  | n + 1, s => if c s = true then (f s).bind (whS c f n) else some s
def lcM {S α β : Type} (f : S → α → Option (S × Option β)) : S → List α → Option (S × List β)
  | s, [] => some (s, [])
  | s, x :: xs => (f s x).bind fun p => (lcM f p.1 xs).bind fun q => some (q.1, match p.2 with | some d => d :: q.2 | none => q.2)
theorem forS_O {S α R : Type} {f : S → α → Option S} : ∀ {xs : List α} {s s' : S}, forS f s xs = some s' → forO (R := R) (fun s x => (f s x).map Out.nx) s xs = some (.nx s')
  | [], s, s', h => by cases h; rfl
  | x :: xs, s, s', h => by
    unfold forS at h
    unfold forO
    cases e : f s x with
    | none => rw [e] at h; cases h
    | some s1 =>
      rw [e] at h
      exact forS_O h
theorem whS_O {S R : Type} {c : S → Bool} {f : S → Option S} : ∀ {n : Nat} {s s' : S}, whS c f n s = some s' → whO (R := R) c (fun s => (f s).map Out.nx) n s = some (.nx s')
  | 0, s, s', h => by cases h
  | n + 1, s, s', h => by
    unfold whS at h
    unfold whO
    by_cases hc : c s = true
    · rw [if_pos hc] at h ⊢
      cases e : f s with
      | none => rw [e] at h; cases h
      | some s1 =>
        rw [e] at h
        exact whS_O h
    · rw [if_neg hc] at h ⊢
      cases h; rfl
/-- an end as contexts tell it -/
def Out.o {S R : Type} (Γs : S → Ctx) (ρ : R → Ctx × M) : Out S R → O
  | .nx s => .nx (Γs s)
  | .bk s => .bk (Γs s)
  | .ct s => .ct (Γs s)
  | .rt r => .rt (ρ r).1 (ρ r).2

section
variable {X : Cx} {C : Cn} {Γ Γ1 Γ2 Γ3 Γ' : Ctx} {Ts Hs : List T} {e a b c tg iter : Expr} {pos p : Pos} {i j : Nat} {d : D} {ds : List D} {m : M} {k : Bool} {st : Stmt} {sts body els : List Stmt} {o o' : O} {S R α : Type} {Γs : S → Ctx} {ρ : R → Ctx × M} {s0 s1 : S}
theorem s_whileO {cb : S → Bool} {f : S → Option (Out S R)} {out : Out S R} {n : Nat} (hc : ∀ s, ET X C (Γs s) Hs c (Γs s) (cb s)) (hb : ∀ s out, cb s = true → f s = some out → SS X C Hs (Γs s) body (out.o Γs ρ)) (h : whO cb f n s0 = some out)
    (hp : PassesOwn (model X.prog X.w) X.A X.env X.xe := by exact PassesOwn.never) : S1 X C Hs (Γs s0) (.While c body [] pos) (out.o Γs ρ) := by
  have ps := ps_while (pos := pos) hp (PT.ex (P := fun _ => True) fun s _ => hc s) (PSs.ex (ι := S × Out S R) (P := fun q => cb q.1 = true ∧ f q.1 = some q.2) fun q hq => hb q.1 q.2 hq.1 hq.2)
  refine ps.wk fun σ H D ⟨⟨hs, h0⟩, q⟩ => ?_
  refine ⟨fun n σ H => ∃ s hs, As C (Γs s) Hs σ hs H ∧ whO cb f n s = some out, ⟨n, s0, hs, h0, h⟩, ?_⟩
  rintro n σ H ⟨s, hs, hA, hw⟩
  refine ⟨s, trivial, hs, hA, fun H1 h1 => ?_⟩
  cases n with
  | zero => cases hw
  | succ n =>
    unfold whO at hw
    cases hk : cb s with
    | false =>
      rw [hk, if_neg Bool.false_ne_true] at hw
      cases hw
      show (if false = true then _ else _)
      rw [if_neg Bool.false_ne_true]
      exact q σ hs H1 h1
    | true =>
      rw [hk, if_pos rfl] at hw
      show (if true = true then _ else _)
      rw [if_pos rfl]
      cases hf : f s with
      | none => rw [hf] at hw; cases hw
      | some out1 =>
        rw [hf] at hw
        refine ⟨fun σ' H' => ∃ s hs, As C (Γs s) Hs σ' hs H' ∧ whO cb f n s = some out, fun σ' H' z => ⟨n, Nat.lt_succ_self n, z⟩, (s, out1), ⟨hk, hf⟩, ⟨hs, h1⟩, ?_⟩
        cases out1 with
        | nx s' => exact fun σ' hs' H' h' => ⟨s', hs', h', hw⟩
        | ct s' => exact fun σ' hs' H' h' => ⟨s', hs', h', hw⟩
        | bk s' => cases hw; exact q
        | rt r => cases hw; exact q
theorem s_while {cb : S → Bool} {f : S → Option S} {n : Nat} (hc : ∀ s, ET X C (Γs s) Hs c (Γs s) (cb s)) (hb : ∀ s s', cb s = true → f s = some s' → SS X C Hs (Γs s) body (.nx (Γs s'))) (h : whS cb f n s0 = some s1)
    (hp : PassesOwn (model X.prog X.w) X.A X.env X.xe := by exact PassesOwn.never) : S1 X C Hs (Γs s0) (.While c body [] pos) (.nx (Γs s1)) :=
  s_whileO (R := Unit) (ρ := fun _ => ([], .im .non)) (out := .nx s1) hc (fun s out hk hf => by
    cases e : f s with
    | none => rw [e] at hf; cases hf
    | some s' => rw [e] at hf; cases hf; exact hb s s' hk e) (whS_O h) hp

/-! ### what is walked -/
def ir (C : Cn) (Γ : Ctx) (Hs : List T) (Γ1 : Ctx) (hx : V → T) (cond : Ctx → Prop) (ds : List D) : TI := fun σ H R => ∃ hs, As C Γ Hs σ hs H ∧
  ∀ v J H1, As C Γ1 (Hs ++ [hx v]) σ (hs ++ [v]) H1 → (∃ G Y, Walk J ds.length G Y ∧ (∀ Γ' σ' hs' H', cond Γ' → As C Γ' (Hs ++ [hx v]) σ' (hs' ++ [v]) H' → G H') ∧
    ∀ i H' x H'', i < ds.length → G H' → Y i H' x H'' → Ext H' H'' ∧ ∃ d, ds[i]? = some d ∧ rD C.K d x H'') → R J H1
abbrev IT (X : Cx) (C : Cn) (Hs : List T) (tg iter : Expr) (Γ Γ1 : Ctx) (hx : V → T) (cond : Ctx → Prop) (ds : List D) : Prop := PI X tg iter (ir C Γ Hs Γ1 hx cond ds)
theorem As.lastIs {Ts : List T} {m : M} {v : V} {σ : L2.St} {us : List V} {H : Hp} (h : As C Γ (Ts ++ [.hid m v]) σ us H) : ∃ vs, us = vs ++ [v] := by
  obtain ⟨vs, u, rfl⟩ := h.lnx
  obtain ⟨F, r, _⟩ := h.top
  exact ⟨vs, by rw [r.1]⟩
/-- the value that is walked is told by its hidden place -/
def Fix (hx : V → T) : Prop := ∀ (K : PySem.W.Frag) (σ : L2.St) (v w : V) (H : Hp) (F : FS), rT K σ (hx v) w H F → w = v
theorem Fix.hid {m : M} : Fix (fun v => .hid m v) := fun K σ v w H F h => h.1
theorem Fix.hal {j : Nat} : Fix (fun v => .hal j v) := fun K σ v w H F h => h.1
theorem As.fix {hx : V → T} {v : V} {σ : L2.St} {us : List V} {H : Hp} (f : Fix hx) (h : As C Γ (Hs ++ [hx v]) σ us H) : ∃ vs, us = vs ++ [v] := by
  obtain ⟨vs, u, rfl⟩ := h.lnx
  obtain ⟨F, r, _⟩ := h.top
  exact ⟨vs, by rw [f _ _ _ _ _ _ r]⟩
theorem s_forO {f : S → α → Option (Out S R)} {enc : α → D} {xs : List α} {out : Out S R} {hx : V → T} {cond : Ctx → Prop} {Γt : S → α → Ctx} {J : List Nat} (hcm : X.calm = true) (fx : Fix hx)
    (it : IT X C Hs tg iter Γ (Γs s0) hx cond (xs.map enc)) (hcond : ∀ s, cond (Γs s)) (gt : ∀ v s x, GT X C (Hs ++ [hx v]) (Γs s) tg (enc x) (Γt s x) J)
    (hb : ∀ v s x out, f s x = some out → SS X C (Hs ++ [hx v]) (Γt s x) body (out.o Γs ρ)) (h : forO f s0 xs = some out)
    (hf : ∀ x, foldedSetIterable iter X.env x = pure x := by intro _; rfl) (hp : PassesOwn (model X.prog X.w) X.A X.env X.xe := by exact PassesOwn.never) : S1 X C Hs Γ (.For tg iter body [] pos) (out.o Γs ρ) := by
  have ps := ps_for (pos := pos) hp hcm it (PG.ex (ι := V × S × α) (P := fun _ => True) fun q _ => gt q.1 q.2.1 q.2.2) (PSs.ex (ι := V × S × α × Out S R) (P := fun q => f q.2.1 q.2.2.1 = some q.2.2.2) fun q hq => hb q.1 q.2.1 q.2.2.1 q.2.2.2 hq) hf
  refine ps.wk fun σ H D ⟨⟨hs1, h0⟩, q⟩ => ⟨hs1, h0, fun v Ji H1 hA ⟨G, Y, w, g1, g2⟩ => ?_⟩
  rw [List.length_map] at w g2
  -- the ends, told without what was hidden
  have qx : ∀ σ hs s H, out = .nx s → As C (Γs s) (Hs ++ [hx v]) σ hs H → D.nx σ H := fun σ hs s H e h' => by
    subst e
    obtain ⟨vs, rfl⟩ := As.fix fx h'
    exact q σ vs H h'.pop
  refine for_it (D := D) (g := fun v σ H Q => ∃ q : V × S × α, True ∧ gr C (Γs q.2.1) (Hs ++ [hx q.1]) (enc q.2.2) (Γt q.2.1 q.2.2) J v σ H Q)
    (tb := fun D σ H => ∃ q : V × S × α × Out S R, f q.2.1 q.2.2.1 = some q.2.2.2 ∧ sr C (Hs ++ [hx q.1]) (Γt q.2.1 q.2.2.1) (q.2.2.2.o Γs ρ) D σ H) w (fun i σ H => ∃ s hs, As C (Γs s) (Hs ++ [hx v]) σ (hs ++ [v]) H ∧ forO f s (xs.drop i) = some out) ⟨s0, hs1, hA, by simpa using h⟩ (fun i σ H _ ⟨s, hs, h', _⟩ => g1 _ σ hs H (hcond s) h') (fun i x σ H H' hi ⟨s, hs, h', hw⟩ y => ?_) (fun σ H ⟨s, hs, h', hw⟩ => ?_)
  · obtain ⟨ex, d, hd, rd⟩ := g2 i H x H' hi (g1 _ σ hs H (hcond s) h') y
    rw [List.getElem?_map] at hd
    have hxi : xs[i]? = some xs[i] := List.getElem?_eq_getElem hi
    rw [hxi] at hd
    cases hd
    have hdr : xs.drop i = xs[i] :: xs.drop (i + 1) := List.drop_eq_getElem_cons hi
    rw [hdr] at hw
    refine ⟨(v, s, xs[i]), trivial, _, h'.ext ex, rd, fun σ2 ag h2 => ?_⟩
    cases hfx : f s xs[i] with
    | none => unfold forO at hw; rw [hfx] at hw; cases hw
    | some out1 =>
      unfold forO at hw
      rw [hfx] at hw
      refine ⟨(v, s, xs[i], out1), hfx, ⟨_, h2⟩, ?_⟩
      cases out1 with
      | nx s' =>
        intro σ3 hs3 H3 h3
        obtain ⟨vs, rfl⟩ := As.fix fx h3
        exact ⟨s', vs, h3, hw⟩
      | ct s' =>
        intro σ3 hs3 H3 h3
        obtain ⟨vs, rfl⟩ := As.fix fx h3
        exact ⟨s', vs, h3, hw⟩
      | bk s' =>
        cases hw
        exact fun σ3 hs3 H3 h3 => qx σ3 hs3 s' H3 rfl h3
      | rt r =>
        cases hw
        intro σ3 hs3 v3 H3 h3
        · have h3' : As C (ρ r).1 ((Hs ++ [hx v]) ++ [.own (ρ r).2]) σ3 (hs3 ++ [v3]) H3 := h3
          obtain ⟨vs, rfl⟩ := As.fix fx h3'.pop
          exact q σ3 vs v3 H3 h3'.mid
  · rw [List.drop_length] at hw
    cases hw
    exact qx σ _ s H rfl h'
end
end RL

set_option maxHeartbeats 4000000
/-! RE1: enumerate over a tuple and over a text -/
namespace RL
open PySem L2
open PySem.AutoSeq1 (wpAny_loadPart')

/-- a new enumerate object over whatever begins so -/
theorem enum_make {v : Value} {o : Obj} {W : Heap → Prop} (B : Begins v o W) :
    Meets (Builtin.«enumerate.__new__» ⟨[.type "enumerate", v], []⟩) (fun _ R s => W s.heap ∧
      R (.ok (.ret (.ref (s.heap.push o).objs.size))) { s with heap := (s.heap.push o).push { cls := .type "enumerate", data := .fields #[.none, .bool false, .ref s.heap.objs.size, rawInt 0, .none, .none] } }) :=
  .of_wp fun P w A R s hh => by
    obtain ⟨hp, gs, dr, tk, os⟩ := s
    obtain ⟨hW, hR⟩ := hh
    have se := sub_enumerate
    have it : ∀ {A1 : Around} {E1 : Value → Shared → Prop} {Q1 : Value → Shared → Prop}, Q1 (.ref hp.objs.size) ⟨hp.push o, gs, dr, tk, os⟩ → wpAny (model P w) A1 (pyIter v) Q1 E1 ⟨hp, gs, dr, tk, os⟩ :=
      fun q => B.iter P w _ _ ⟨hp, gs, dr, tk, os⟩ _ hW q
    wp_walk using it
    refine wpAny_stack_any fun stk => wpAny_pure ?_
    split
    · rename_i c _ _ _ _ _
      cases (c == Value.type "enumerate")
      all_goals
        wp_walk using it
        exact ⟨_, rfl, hR⟩
    · wp_walk using it
      exact ⟨_, rfl, hR⟩
section
variable {P : Program} {w : World} {A : Around} {E : Value → Shared → Prop} {s : Shared}
theorem enum_call {v : Value} {o : Obj} {W : Heap → Prop} {Q : Value → Shared → Prop} (B : Begins v o W) (hW : W s.heap)
    (h : ∀ h', IsEnum h' (s.heap.objs.size + 1) s.heap.objs.size 0 .none → h'.get? s.heap.objs.size = some o → h'.objs.size = s.heap.objs.size + 2 →
      (∀ b u, s.heap.get? b = some u → h'.get? b = some u) → Q (.ref (s.heap.objs.size + 1)) { s with heap := h' }) :
    wpAny (model P w) A (call (.type "enumerate") [v]) Q E s := by
  refine callType_new F.called_enumerate (by decide) (F.typeCall_enumerate_1 _) (F.newCall_enumerate_1 _) (fun x => F.args_object_init_2 x _) F.entry_enumerate_new (enum_make B) ⟨hW, ?_⟩
  have e1 : (s.heap.push o).objs.size = s.heap.objs.size + 1 := Heap.size_push ..
  show _ ∧ _
  rw [e1]
  have e2 : IsEnum ((s.heap.push o).push { cls := .type "enumerate", data := .fields #[.none, .bool false, .ref s.heap.objs.size, rawInt 0, .none, .none] }) (s.heap.objs.size + 1) s.heap.objs.size 0 .none := by
    have z := Heap.get?_push_size (s.heap.push o) (o := { cls := .type "enumerate", data := .fields #[.none, .bool false, .ref s.heap.objs.size, rawInt 0, .none, .none] }) rfl
    rw [e1] at z
    exact z
  exact ⟨⟨_, e2, rfl⟩, h _ e2 (Heap.get?_push_of_some _ (Heap.get?_push_size _ B.free)) (by rw [Heap.size_push, e1]) fun b u z => Heap.get?_push_of_some _ (Heap.get?_push_of_some _ z)⟩
end

section
variable {P : Program} {w : World} {A : Around} {E : Value → Shared → Prop} {s : Shared}
theorem enum_endT {e it t : Addr} {j : Int} {i : Nat} {items : Array Value} {old : Value} {Q : Option Value → Shared → Prop} (hh : A.handled = none)
    (he : IsEnum s.heap e it j old) (hit : s.heap.IsTupleIter it t i) (hl : s.heap.IsTuple t items) (hx : items[i]? = none)
    (hQ : ∀ h', Heap.ExtBut it s.heap h' → Q none { s with heap := h' }) : wpAny (model P w) A (pyNext (.ref e)) Q E s := by
  have ty : s.TypeIs (.ref e) "enumerate" := ⟨_, he, rfl⟩
  unfold pyNext
  refine wpAny_bind (wpAny_attempt (wpAny_callSpecial?_slot (name := Str.ofString "__next__") ty F.slot_enumerate_next (wpAny_call_entry F.slot_enumerate_next ty F.entry_enumerate_next ?_ (F.args_enumerate_next_1 _))))
  show wpAny _ _ (field (.ref e) 2 >>= _) _ _ _
  refine wpAny_bind (wpAny_field he rfl (x := .ref it) rfl ?_)
  refine wpAny_bind (wpAny_nextOf_tuple_end hh hit hl hx fun h' x he' hx' => ?_)
  obtain ⟨o, ho, hc⟩ := hx'
  refine wpAny_bind (wpAny_isInstance (T := "StopIteration") (b := true) ⟨o, ho, hc⟩ isSubtype_stop ?_)
  exact wpAny_pure (hQ _ he')
end
/-- the items of the tuple at a, each in a new pair with its place -/
def Itet (K : PySem.W.Frag) (a : Addr) : It :=
  ⟨fun i H => ∃ (xs : List V) (x : V), SqT K H a xs ∧ xs[i]? = some x, fun i H v H' => ∃ q x, v = .ref q ∧ H q = none ∧ H' = upd H q (.tup [.int (i : Nat), x]) ∧ ∀ xs, SqT K H a xs → xs[i]? = some x, fun i H => ∃ xs : List V, SqT K H a xs ∧ xs.length ≤ i⟩
theorem turn_enumT {P : Program} {w : World} {K : PySem.W.Frag} {elts : List Expr} {kk : Nat} {tpos : Pos} (a e it : Addr) :
    Turn P w K (.Tuple elts kk tpos) (Itet K a) [e, it] e (fun i h => (∃ old, IsEnum h e it ((i : Nat) : Int) old) ∧ h.IsTupleIter it a i ∧ e ≠ it ∧ a ≠ it ∧ a ≠ e) := by
  constructor
  · simp
  · intro i h ⟨⟨old, he⟩, ⟨o, ho, hc, hd⟩, _⟩ b hb
    rcases List.mem_cons.mp hb with z | z
    · subst z
      exact ⟨_, he, fun v q => nomatch q⟩
    · have z := List.mem_singleton.mp z
      subst z
      exact ⟨o, ho, fun v q => by rw [hd] at q; cases q⟩
  · intro i h h' ⟨⟨old, he⟩, hi, ne⟩ k
    exact ⟨⟨old, k e (by simp) _ he⟩, hi.at fun o q => k it (by simp) o q, ne⟩
  · intro X hP hw hK hc i pins s σ H E I hf st hg
    subst hP hw hK
    obtain ⟨⟨old, he⟩, hit, hne, ha1, ha2⟩ := st
    obtain ⟨xs, x, hq, hx⟩ := hg
    obtain ⟨its, rv, p, hz⟩ := I.tuple hq
    have el : e < s.heap.objs.size := Heap.lt_size he
    have il : it < s.heap.objs.size := by obtain ⟨_, q, _⟩ := hit; exact Heap.lt_size q
    have hit2 := hit
    have pt : s.heap.IsTuple a its.toArray := p
    have hn : i < its.toArray.size := by
      rw [List.size_toArray, ← rv.length]
      exact (List.getElem?_eq_some_iff.mp hx).1
    have hef : e ∉ [it, a] := by simp; exact ⟨hne, fun z => ha2 z.symm⟩
    refine wpAny_pyNext_enum_itemD (Draws.tuple (A := X.A.in1) (I.ok.hd hc) it a ha1 its.toArray) he ⟨hit, pt⟩ hn hne hef fun y h' tk hy ho hst' hT hsz hk => ?_
    obtain ⟨hit', pt'⟩ := hst'
    obtain ⟨y', hy', ry⟩ := rv.get hx
    have yy : y = y' := by
      have q1 : its.toArray[i]? = some y := hy
      rw [List.getElem?_toArray] at q1
      rw [q1] at hy'
      exact Option.some.inj hy'
    subst yy
    refine ⟨_, rfl, wpAny_letOwnedTupleGo_enum (s := { s with heap := h', toks := tk + 1 }) ho fun h2 he2 sb => ?_⟩
    have hT2 : h2.get? s.heap.objs.size = some { cls := .type "tuple", data := .seq #[.int i tk, y] } := (sb.2 _ (Nat.ne_of_gt el)).trans hT
    have new : ObjOk X.prog X.w (upd H s.heap.objs.size (.tup [.int (i : Nat), x])) h2 s.heap.objs.size (.tup [.int (i : Nat), x]) := by
      refine ⟨by show 2 ≤ sizeLine; decide, [.int i tk, y], .cons ⟨_, rfl⟩ (.cons ry .nil), ?_⟩
      exact ⟨_, hT2, rfl, _, rfl⟩
    have I1 : Inv X pins σ (upd H s.heap.objs.size (.tup [.int (i : Nat), x])) { s with heap := h2, toks := tk + 1 } := by
      refine I.turnedNew (ch := [e, it]) (fun b ob hb q => ?_) hf (Nat.le_refl _) new
      have n1 : b ≠ e := fun z => hb (by simp [z])
      have n2 : b ≠ it := fun z => hb (by simp [z])
      exact (sb.2 b n1).trans (hk b ob n1 n2 q)
    refine ⟨.ref s.heap.objs.size, _, I1, rfl, ⟨_, x, rfl, I.hok.fresh (Nat.le_refl _), rfl, fun ys hys => by rw [I.tuple_inj hys hq]; exact hx⟩, ⟨⟨y, ?_⟩, hit'.at fun o q => (sb.2 it (Ne.symm hne)).trans q, hne, ha1, ha2⟩, fun b hb => ?_⟩
    · have e1 : ((i + 1 : Nat) : Int) = (i : Int) + 1 := by omega
      rw [e1]
      exact he2
    · have lt : b < s.heap.objs.size := by
        rcases List.mem_cons.mp hb with z | z
        · rw [z]; exact el
        · rw [List.mem_singleton.mp z]; exact il
      rw [upd_ne (Nat.ne_of_lt lt)]
      exact (hf b hb).1
  · intro X hP hw hK hc i pins s σ H E I hf st hg
    subst hP hw hK
    obtain ⟨⟨old, he⟩, hit, hne, ha1, ha2⟩ := st
    obtain ⟨xs, hq, hx⟩ := hg
    obtain ⟨its, rv, p, hz⟩ := I.tuple hq
    have pt : s.heap.IsTuple a its.toArray := p
    obtain ⟨f0, f1, f2, f3, f4, f5⟩ := hf it (by simp)
    -- at its end: no item at place i
    refine enum_endT (I.ok.hd hc) he hit pt (by rw [List.getElem?_toArray]; exact List.getElem?_eq_none_iff.mpr (by rw [← rv.length]; exact hx)) fun h' eb => ⟨rfl, I.turned (t' := s.toks) (fun b o hb q => eb b o hb q) f0 f1 f3 f4 f5⟩
  · intro A i s Q E ⟨⟨_, he⟩, _⟩ h
    exact wpAny_pyIter_enum he h
end RL

set_option maxHeartbeats 2000000
/-! RL7: lists, what loops walk, comprehensions, a def's body -/
namespace RL
open PySem L2

/-! ### enumerate(tuple) begins -/
def iEnumT (K : PySem.W.Frag) (ta : TA) : TI := fun σ H R => ta σ H fun vs H1 => ∃ a xs, vs = [.ref a] ∧ SqT K H1 a xs ∧ R (Itet K a) H1
theorem pi_enumT {X : Cx} {e : Expr} {ta : TA} {p pos tpos : Pos} {elts : List Expr} {kk : Nat} (hg : Gl X "enumerate") (hm : X.mg "enumerate" = none) (ha : PA X [e] ta) (hs : starEach [e] X.env = [(false, eval e X.env)] := by rfl) :
    PI X (.Tuple elts kk tpos) (.Call (.Name "enumerate" p) [e] [] pos) (iEnumT X.K ta) := by
  constructor
  intro pins s σ H R I h
  refine PyProof.Rows.Call_ (ld_blt I hg hm PyProof.Rows.boot_enumerate (PyProof.Rows.callWith_type1 (thn (ha.run pos pins s σ H _ I h) fun us s1 ⟨vs, H1, I1, r1, a, xs, ex, hq, q⟩ => ?_) hs rfl))
  subst ex
  obtain ⟨u, rfl, ru⟩ := Vals.one r1
  cases (show u = Value.ref a from ru)
  obtain ⟨its, rv, p', hz⟩ := I1.tuple hq
  have pt : s1.heap.IsTuple a its.toArray := p'
  have al : a < s1.heap.objs.size := p'.lt
  refine enum_call (begins_tuple a its.toArray) pt fun h' he hit hsz hk => wpAny_pyIter_enum he ?_
  have I2 : Inv X pins σ H1 { s1 with heap := h' } := I1.kept (t' := s1.toks) hk
  refine ⟨s1.heap.objs.size + 1, [s1.heap.objs.size + 1, s1.heap.objs.size], _, _, H1, rfl, I2, turn_enumT a (s1.heap.objs.size + 1) s1.heap.objs.size, ⟨⟨.none, he⟩, ⟨_, hit, rfl, rfl⟩, Nat.succ_ne_self _, Nat.ne_of_lt al, Nat.ne_of_lt (Nat.lt_succ_of_lt al)⟩, fun b hb => ?_, q⟩
  have hle : s1.heap.objs.size ≤ b := by
    rcases List.mem_cons.mp hb with z | z
    · rw [z]; exact Nat.le_succ _
    · rw [List.mem_singleton.mp z]; exact Nat.le_refl _
  exact I1.fpOk hle (I1.hok.fresh hle)

/-! ### lists of data -/
theorem rDs.get {K : PySem.W.Frag} {H : Hp} : ∀ {ds : List D} {us : List V} {i : Nat} {d : D}, rDs K ds us H → ds[i]? = some d → ∃ u, us[i]? = some u ∧ rD K d u H
  | [], us, i, d, h, e => by simp at e
  | d0 :: ds, us, i, d, h, e => by
    unfold rDs at h
    obtain ⟨w, ws, rfl, r, s⟩ := h
    cases i with
    | zero => simp at e; subst e; exact ⟨w, rfl, r⟩
    | succ i =>
      obtain ⟨u, h1, h2⟩ := rDs.get (i := i) s (by simpa using e)
      exact ⟨u, by simpa using h1, h2⟩
theorem rDs.get2 {K : PySem.W.Frag} {H : Hp} {ds : List D} {us : List V} {i : Nat} {u : V} (h : rDs K ds us H) (e : us[i]? = some u) : ∃ d, ds[i]? = some d ∧ rD K d u H := by
  have hl := h.len
  have hi : i < ds.length := by rw [← hl]; exact (List.getElem?_eq_some_iff.mp e).1
  obtain ⟨u', h1, h2⟩ := h.get (List.getElem?_eq_getElem hi)
  rw [e] at h1
  cases h1
  exact ⟨_, List.getElem?_eq_getElem hi, h2⟩
theorem rDs.app {K : PySem.W.Frag} {H : Hp} : ∀ {ds es : List D} {us ws : List V}, rDs K ds us H → rDs K es ws H → rDs K (ds ++ es) (us ++ ws) H
  | [], es, us, ws, h, g => by unfold rDs at h; subst h; exact g
  | d :: ds, es, us, ws, h, g => by
    unfold rDs at h
    obtain ⟨w, vs, rfl, r, s⟩ := h
    show rDs K (d :: (ds ++ es)) (w :: (vs ++ ws)) H
    unfold rDs
    exact ⟨w, _, rfl, r, s.app g⟩
theorem rDs.drop {K : PySem.W.Frag} {H : Hp} : ∀ {ds : List D} {us : List V} (n : Nat), rDs K ds us H → rDs K (ds.drop n) (us.drop n) H
  | ds, us, 0, h => h
  | [], us, n + 1, h => by unfold rDs at h; subst h; simp; unfold rDs; rfl
  | d :: ds, us, n + 1, h => by
    unfold rDs at h
    obtain ⟨w, vs, rfl, r, s⟩ := h
    exact s.drop n
theorem rDs.take {K : PySem.W.Frag} {H : Hp} : ∀ {ds : List D} {us : List V} (n : Nat), rDs K ds us H → rDs K (ds.take n) (us.take n) H
  | ds, us, 0, h => by simp; unfold rDs; rfl
  | [], us, n + 1, h => by unfold rDs at h; subst h; simp; unfold rDs; rfl
  | d :: ds, us, n + 1, h => by
    unfold rDs at h
    obtain ⟨w, vs, rfl, r, s⟩ := h
    show rDs K (d :: ds.take n) (w :: vs.take n) H
    unfold rDs
    exact ⟨w, _, rfl, r, s.take n⟩
theorem rDs.one {K : PySem.W.Frag} {H : Hp} {d : D} {v : V} (h : rD K d v H) : rDs K [d] [v] H := by
  unfold rDs
  exact ⟨v, [], rfl, h, by unfold rDs; rfl⟩
theorem rDs.rev {K : PySem.W.Frag} {H : Hp} : ∀ {ds : List D} {us : List V}, rDs K ds us H → rDs K ds.reverse us.reverse H
  | [], us, h => by unfold rDs at h; subst h; exact (by unfold rDs; rfl)
  | d :: ds, us, h => by
    unfold rDs at h
    obtain ⟨w, vs, rfl, r, s⟩ := h
    rw [List.reverse_cons, List.reverse_cons]
    exact s.rev.app (.one r)
theorem rDs.at {K : PySem.W.Frag} {H : Hp} {ds : List D} {us : List V} {i : Int} {d : D} (h : rDs K ds us H) (e : atI ds i = some d) : ∃ u, atI us i = some u ∧ rD K d u H := by
  unfold atI at e ⊢
  rw [h.len]
  cases q : ixN ds.length i with
  | none => rw [q] at e; cases e
  | some j =>
    rw [q] at e
    exact h.get e
/-- the items of xs[lo:hi], of any kind -/
def cutL {α : Type} (xs : List α) (lo hi : Option Int) : List α := (xs.drop (HT.sIx xs.length 0 lo)).take (HT.sIx xs.length xs.length hi - HT.sIx xs.length 0 lo)
theorem rDs.cut {K : PySem.W.Frag} {H : Hp} {ds : List D} {us : List V} (lo hi : Option Int) (h : rDs K ds us H) : rDs K (cutL ds lo hi) (cutV us lo hi) H := by
  unfold cutL cutV
  rw [h.len]
  exact (h.drop _).take _
theorem cutL_map {α β : Type} (f : α → β) (xs : List α) (lo hi : Option Int) : cutL (xs.map f) lo hi = (cutL xs lo hi).map f := by
  unfold cutL
  rw [List.length_map, ← List.map_drop, List.map_take]

section
variable {X : Cx} {C : Cn} {Γ Γ1 Γ2 Γ3 Γ' : Ctx} {Ts Hs : List T} {t t1 t2 t3 : T} {ts : List T} {e a b c tg iter : Expr} {es rest : List Expr} {pos p p2 : Pos} {i j : Nat} {d d1 d2 d3 : D} {ds ds' : List D} {m : M} {b1 b2 k : Bool}
/-- a list of data: in a slot, on the stack, or one that never changes -/
inductive Src (Γ : Ctx) : T → List D → Prop where
  | al {j : Nat} {ds : List D} (h : Γ[j]? = some (some (.li ds))) : Src Γ (.al j) ds
  | own {ds : List D} : Src Γ (.own (.li ds)) ds
  | fz {ds : List D} : Src Γ (.im (.lst ds)) ds
  | alf {j : Nat} {ds : List D} (h : Γ[j]? = some (some (.im (.lst ds)))) : Src Γ (.al j) ds
/-- one that may change -/
inductive SrcS (Γ : Ctx) : T → List D → Prop where
  | al {j : Nat} {ds : List D} (h : Γ[j]? = some (some (.li ds))) : SrcS Γ (.al j) ds
  | own {ds : List D} : SrcS Γ (.own (.li ds)) ds
theorem As.srcS {σ : L2.St} {vs : List V} {v : V} {H : Hp} (h : As C Γ (Ts ++ [t]) σ (vs ++ [v]) H) (s : SrcS Γ t ds) : ∃ a us, v = .ref a ∧ H a = some (.lst us) ∧ rDs C.K ds us H := by
  cases s with
  | al hj =>
    obtain ⟨w, F, hw, r, _⟩ := h.slot hj
    obtain ⟨G, ⟨g, _⟩, _⟩ := h.top
    rw [hw] at g
    cases g
    unfold rM at r
    obtain ⟨a, us, e, hl, rd, _⟩ := r
    exact ⟨a, us, e, hl, rd⟩
  | own =>
    obtain ⟨F, r, _⟩ := h.top
    have r : rM C.K (.li ds) v H F := r
    unfold rM at r
    obtain ⟨a, us, e, hl, rd, _⟩ := r
    exact ⟨a, us, e, hl, rd⟩
theorem As.src {σ : L2.St} {vs : List V} {v : V} {H : Hp} (h : As C Γ (Ts ++ [t]) σ (vs ++ [v]) H) (s : Src Γ t ds) : ∃ a us, v = .ref a ∧ SqL C.K H a us ∧ rDs C.K ds us H := by
  cases s with
  | al hj =>
    obtain ⟨a, us, e, hl, rd⟩ := h.srcS (.al hj)
    exact ⟨a, us, e, SqL.of hl, rd⟩
  | own =>
    obtain ⟨a, us, e, hl, rd⟩ := h.srcS .own
    exact ⟨a, us, e, SqL.of hl, rd⟩
  | fz =>
    have r := h.topIm
    unfold rD at r
    obtain ⟨a, us, e, hl, rd⟩ := r
    exact ⟨a, us, e, hl.sq, rd⟩
  | alf hj =>
    obtain ⟨w, hw, r⟩ := h.slotIm hj
    obtain ⟨G, ⟨g, _⟩, _⟩ := h.top
    rw [hw] at g
    cases g
    unfold rD at r
    obtain ⟨a, us, e, hl, rd⟩ := r
    exact ⟨a, us, e, hl.sq, rd⟩
/-- the list in the slot j becomes another one -/
theorem As.lset {σ : L2.St} {vs : List V} {H : Hp} (h : As C Γ Ts σ vs H) (hj : Γ[j]? = some (some (.li ds))) : ∃ a us, σ[j]? = some (some (.ref a)) ∧ H a = some (.lst us) ∧ rDs C.K ds us H ∧
    ∀ us' ds', rDs C.K ds' us' H → As C (Γ.set j (some (.li ds'))) Ts σ vs (upd H a (.lst us')) := by
  obtain ⟨w, F, hw, r, q⟩ := h.slot hj
  unfold rM at r
  obtain ⟨a, us, e, hl, rd, hF⟩ := r
  subst e
  refine ⟨a, us, hw, hl, rd, fun us' ds' rd' => ?_⟩
  have mu : Mut (H a) := by rw [hl]; trivial
  have tf : TF H (upd H a (.lst us')) := TF.write mu
  refine q (.li ds') _ F tf (fun b nb _ => upd_ne fun z => nb ((hF b).2 z)) ?_ fun b hb => .inl hb
  unfold rM
  exact ⟨a, us', rfl, upd_same, rd'.tf tf, hF⟩
/-! #### places and parts of lists and tuples -/
theorem r2s_ixL {n : Int} (s : Src Γ t ds) (h : atI ds n = some d) (hK : X.K = C.K) : R2S C Γ Ts t (.im (.int n)) (rIxL X.K) Γ (.im d) := fun σ vs x y H hA Q q => by
  have hy := hA.topIm
  unfold rD at hy
  obtain ⟨a, us, e, hl, rd⟩ := hA.pop.src s
  obtain ⟨u, hu, ru⟩ := rd.at h
  exact ⟨a, us, n, u, e, hy, by rw [hK]; exact hl, hu, q u H (hA.pop.pop.pushIm Ext.refl ru)⟩
theorem ee_ixL {n : Int} (h1 : EE X C Γ Ts a Γ1 t) (h2 : EE X C Γ1 (Ts ++ [t]) b Γ2 (.im (.int n))) (s : Src Γ2 t ds) (h : atI ds n = some d) (hs : PlainIx b := by exact fun _ _ => rfl) (hK : X.K = C.K := by rfl) : EE X C Γ Ts (.Subscript a b pos) Γ2 (.im d) := ee_ix ix_list hs h1 h2 (r2s_ixL s h hK)
theorem ee_ixT {n : Int} (h1 : EE X C Γ Ts a Γ1 (.im (.tup ds))) (h2 : EE X C Γ1 (Ts ++ [.im (.tup ds)]) b Γ2 (.im (.int n))) (h : atI ds n = some d) (hs : PlainIx b := by exact fun _ _ => rfl) (hK : X.K = C.K := by rfl) : EE X C Γ Ts (.Subscript a b pos) Γ2 (.im d) := ee_ix ix_tup hs h1 h2 (r2s_im fun x y H hx hy Q q => by
  unfold rD at hx hy
  obtain ⟨a, us, e, hl, rd⟩ := hx
  obtain ⟨u, hu, ru⟩ := rd.at h
  exact ⟨a, us, n, u, e, hy, by rw [hK]; exact hl, hu, q u ru⟩)
/-- a part of a slice -/
def por (C : Cn) (Γ : Ctx) (Ts : List T) (Γ' : Ctx) (o : Option Int) : TO := fun σ H Q => ∃ vs, As C Γ Ts σ vs H ∧ ∀ H', As C Γ' Ts σ vs H' → Q o H'
abbrev EP (X : Cx) (C : Cn) (Γ : Ctx) (Ts : List T) (e : Option Expr) (Γ' : Ctx) (o : Option Int) : Prop := PO X e (por C Γ Ts Γ' o)
theorem _root_.L2.PO.wk {X : Cx} {e : Option Expr} {t t' : TO} (h : PO X e t) (w : ∀ σ H Q, t' σ H Q → t σ H Q) : PO X e t' := ⟨fun pins s σ H Q I q => h.run pins s σ H Q I (w _ _ _ q)⟩
theorem ep_none : EP X C Γ Ts none Γ none := po_none.wk fun σ H Q ⟨vs, h, q⟩ => q H h
theorem ep_some {n : Int} (h : EE X C Γ Ts e Γ1 (.im (.int n))) : EP X C Γ Ts (some e) Γ1 (some n) := (po_some h).wk fun σ H Q ⟨vs, h, q⟩ => ⟨vs, h, fun v H' h' => by
  have e := h'.topIm
  unfold rD at e
  exact ⟨n, e, q H' h'.pop⟩⟩
theorem ee_slL {lo hi : Option Expr} {l u : Option Int} (h1 : EE X C Γ Ts a Γ1 t) (h2 : EP X C Γ1 (Ts ++ [t]) lo Γ2 l) (h3 : EP X C Γ2 (Ts ++ [t]) hi Γ3 u) (s : Src Γ3 t ds) (hK : X.K = C.K := by rfl) : EE X C Γ Ts (.Subscript a (.Slice lo hi none p2) pos) Γ3 (.own (.li (cutL ds l u))) :=
  (pe_slice sl_list h1 h2 h3).wk fun σ H Q ⟨vs, h, q⟩ => ⟨vs, h, fun v H1 h1 => ⟨vs ++ [v], h1, fun H2 h2 => ⟨vs ++ [v], h2, fun H3 h3 => by
    obtain ⟨a, us, e, hl, rd⟩ := h3.src s
    refine ⟨a, us, e, by rw [hK]; exact hl, fun p hp => q _ _ (h3.pop.push (Ext.new hp) (t := .own (.li (cutL ds l u))) (F := fun x => x = p) ?_ (fun x e => by rw [e]; exact hp) fun x e => by rw [e, upd_same]; trivial)⟩
    show rM _ _ _ _ _
    unfold rM
    exact ⟨p, _, rfl, upd_same, (rd.cut l u).tf (Ext.new hp).tf, fun _ => Iff.rfl⟩⟩⟩⟩
theorem ee_slT {lo hi : Option Expr} {l u : Option Int} (h1 : EE X C Γ Ts a Γ1 (.im (.tup ds))) (h2 : EP X C Γ1 (Ts ++ [.im (.tup ds)]) lo Γ2 l) (h3 : EP X C Γ2 (Ts ++ [.im (.tup ds)]) hi Γ3 u) (hK : X.K = C.K := by rfl) : EE X C Γ Ts (.Subscript a (.Slice lo hi none p2) pos) Γ3 (.im (.tup (cutL ds l u))) :=
  (pe_slice sl_tupA h1 h2 h3).wk fun σ H Q ⟨vs, h, q⟩ => ⟨vs, h, fun v H1 h1 => ⟨vs ++ [v], h1, fun H2 h2 => ⟨vs ++ [v], h2, fun H3 h3 => by
    have r := h3.topIm
    unfold rD at r
    obtain ⟨a, us, e, hl, rd⟩ := r
    refine ⟨a, us, e, by rw [hK]; exact hl, fun hw => q _ H3 (h3.pop.pushIm Ext.refl ?_), fun _ p hp => q _ _ (h3.pop.pushIm (Ext.new hp) ?_)⟩
    · unfold rD
      refine ⟨a, us, rfl, hl, ?_⟩
      have e2 : cutL ds l u = ds := by
        unfold cutL
        rw [← rd.len, hw.1, hw.2]
        simp [rd.len]
      rw [e2]
      exact rd
    · unfold rD
      exact ⟨p, _, rfl, SqT.of upd_same, (rd.cut l u).tf (Ext.new hp).tf⟩⟩⟩⟩
theorem ee_revL {q1 q2 q3 : Pos} {kk : Nat} (h1 : EE X C Γ Ts a Γ1 t) (s : Src Γ1 t ds) (hK : X.K = C.K := by rfl) : EE X C Γ Ts (.Subscript a (.Slice none none (some (.UnaryOp .USub (.Constant (.int 1) kk q1) q2)) q3) pos) Γ1 (.own (.li ds.reverse)) :=
  (pe_revL h1).wk fun σ H Q ⟨vs, h, q⟩ => ⟨vs, h, fun v H1 h1 => by
    obtain ⟨a, us, e, hl, rd⟩ := h1.src s
    refine ⟨a, us, e, by rw [hK]; exact hl, fun p hp => q _ _ (h1.pop.push (Ext.new hp) (t := .own (.li ds.reverse)) (F := fun x => x = p) ?_ (fun x e => by rw [e]; exact hp) fun x e => by rw [e, upd_same]; trivial)⟩
    show rM _ _ _ _ _
    unfold rM
    exact ⟨p, _, rfl, upd_same, rd.rev.tf (Ext.new hp).tf, fun _ => Iff.rfl⟩⟩
/-! #### methods of lists in slots -/
theorem tyV_lst {K : PySem.W.Frag} {a : Addr} {us : List V} {H : Hp} (h : H a = some (.lst us)) : tyV K "list" (.ref a) H := .inl ⟨rfl, us, SqL.of h⟩
theorem ee_append {nm : Expr} {apos cpos : Pos} (j : Nat) (hn : PE X nm (tVar j)) (hj : Γ[j]? = some (some (.li ds'))) (h1 : EE X C Γ (Ts ++ [.al j]) e Γ1 (.im d)) (hj1 : Γ1[j]? = some (some (.li ds))) (hl : ds.length < sizeLine)
    (hbase : attributeBase nm "append" X.env (eval nm X.env) = eval nm X.env := by rfl)
    (hfew : ((backTo cpos (starEach [e] X.env)).all (fun x => !x.1) && (backToKw cpos (keywordEach [] X.env)).all (fun x => x.1.isSome)
      && decide ([e].length + ([] : List Keyword).length + (if ([] : List Keyword).isEmpty then 0 else 1) < 30)) = true := by rfl)
    (hline : (apos.endLine == cpos.line) = true := by rfl) (hs : starEach [e] X.env = (false, eval e X.env) :: starEach [] X.env := by rfl) (hplain : (backTo cpos (starEach [] X.env)).any (·.1) = false := by rfl) :
    EE X C Γ Ts (.Call (.Attribute nm "append" apos) [e] [] cpos) (Γ1.set j (some (.li (ds ++ [d])))) (.im .non) := by
  refine (pe_bm PySem.F.plainAttrs_list PySem.F.slot_list_append PySem.F.type_list_append mt_append (ee_al (C := C) (Γ := Γ) (Ts := Ts) j hn hj) (ea_cons h1 ea_nil hs) hbase hfew hline hs hplain).wk fun σ H Q ⟨vs, h, q⟩ => ⟨vs, h, fun v H1 h1 => ?_⟩
  obtain ⟨a0, us0, e0, hl0, _⟩ := h1.srcS (.al hj)
  subst e0
  refine ⟨tyV_lst hl0, vs ++ [.ref a0], h1, fun us H2 hlen h2 => ?_⟩
  obtain ⟨u, rfl⟩ : ∃ u, us = [u] := List.length_eq_one_iff.mp hlen
  have rd := h2.topIm
  have h3 := h2.pop
  obtain ⟨a1, us1, e1, hl1, rd1⟩ := h3.srcS (.al hj1)
  cases e1
  obtain ⟨a2, us2, hσ, hl2, rd2, put⟩ := h3.pop.lset hj1
  have ea : a2 = a0 := by
    obtain ⟨F, ⟨g, _⟩, _⟩ := h3.top
    rw [hσ] at g
    injection g with g; injection g with g; injection g
  subst ea
  rw [hl1] at hl2
  cases hl2
  exact ⟨a2, us1, u, rfl, rfl, hl1, by rw [rd1.len]; exact hl, q _ _ ((put _ _ (rd1.app (.one rd))).pushIm Ext.refl (by unfold rD; rfl))⟩
theorem ee_pop {nm : Expr} {apos cpos : Pos} (j : Nat) (hn : PE X nm (tVar j)) (hj : Γ[j]? = some (some (.li ds))) (hd : ds.getLast? = some d)
    (hbase : attributeBase nm "pop" X.env (eval nm X.env) = eval nm X.env := by rfl) (hline : (apos.endLine == cpos.line) = true := by rfl) :
    EE X C Γ Ts (.Call (.Attribute nm "pop" apos) [] [] cpos) (Γ.set j (some (.li ds.dropLast))) (.im d) := by
  refine (pe_bm0 PySem.F.plainAttrs_list PySem.F.slot_list_pop PySem.F.type_list_pop mt_pop (ee_al (C := C) (Γ := Γ) (Ts := Ts) j hn hj) hbase hline).wk fun σ H Q ⟨vs, h, q⟩ => ⟨vs, h, fun v H1 h1 => ?_⟩
  obtain ⟨a0, us0, e0, hl0, rd0⟩ := h1.srcS (.al hj)
  subst e0
  obtain ⟨a2, us2, hσ, hl2, rd2, put⟩ := h1.pop.lset hj
  have ea : a2 = a0 := by
    obtain ⟨F, ⟨g, _⟩, _⟩ := h1.top
    rw [hσ] at g
    injection g with g; injection g with g; injection g
  subst ea
  rw [hl0] at hl2
  cases hl2
  have hd' : ds[ds.length - 1]? = some d := by rw [← List.getLast?_eq_getElem?]; exact hd
  obtain ⟨u, hu, ru⟩ := rd0.get hd'
  have rdl : rDs C.K ds.dropLast us0.dropLast H1 := by
    rw [List.dropLast_eq_take, List.dropLast_eq_take, rd0.len]
    exact rd0.take _
  refine ⟨tyV_lst hl0, a2, us0, u, rfl, rfl, hl0, by rw [rd0.len]; exact hu, q _ _ ((put _ _ rdl).pushIm Ext.refl (ru.tf (TF.write ?_)))⟩
  rw [hl0]
  trivial
/-! #### tuple(..), len(..) of lists -/
theorem ee_tupOf {nm : Pos} (hm : X.mg "tuple" = none) (h : EE X C Γ Ts e Γ1 t) (s : Src Γ1 t ds) (hg : Gl X "tuple" := by rfl) (hK : X.K = C.K := by rfl) (he : starEach [e] X.env = (false, eval e X.env) :: starEach [] X.env := by rfl) (hpl : (backTo pos (starEach [] X.env)).any (·.1) = false := by rfl) : EE X C Γ Ts (.Call (.Name "tuple" nm) [e] [] pos) Γ1 (.im (.tup ds)) :=
  cb_wk (ts := [t]) (fun σ vs us H hl h Q q => by
    obtain ⟨u, rfl⟩ : ∃ u, us = [u] := List.length_eq_one_iff.mp hl
    obtain ⟨a, ws, e1, hw, rd⟩ := h.src s
    subst e1
    refine ⟨a, ws, rfl, .inl ⟨by rw [hK]; exact hw, fun p hp => q _ _ (h.pop.pushIm (Ext.new hp) ?_)⟩⟩
    unfold rD
    exact ⟨p, ws, rfl, SqT.of upd_same, rd.tf (Ext.new hp).tf⟩) (pe_callTy call_tuple_of hg hm (by decide +kernel) (ea_cons h ea_nil he) (by decide) (by decide) he hpl)
theorem ee_lenL {nm : Pos} (hm : X.mg "len" = none) (h : EE X C Γ Ts e Γ1 t) (s : Src Γ1 t ds) (hg : Gl X "len" := by rfl) (hK : X.K = C.K := by rfl) (he : starEach [e] X.env = (false, eval e X.env) :: starEach [] X.env := by rfl) (hpl : (backTo pos (starEach [] X.env)).any (·.1) = false := by rfl) : EE X C Γ Ts (.Call (.Name "len" nm) [e] [] pos) Γ1 (.im (.int ds.length)) :=
  cb_wk (ts := [t]) (fun σ vs us H hl h Q q => by
    obtain ⟨u, rfl⟩ : ∃ u, us = [u] := List.length_eq_one_iff.mp hl
    obtain ⟨a, ws, e1, hw, rd⟩ := h.src s
    subst e1
    exact ⟨a, ws, rfl, .inl (by rw [hK]; exact hw), q _ _ (h.pop.pushIm Ext.refl (by unfold rD; rw [rd.len]))⟩) (pe_callB call_len_seq hg hm PySem.boot_len (ea_cons h ea_nil he) (by decide) (by decide) he hpl)
theorem ee_lenT {nm : Pos} (hm : X.mg "len" = none) (h : EE X C Γ Ts e Γ1 (.im (.tup ds))) (hg : Gl X "len" := by rfl) (hK : X.K = C.K := by rfl) (he : starEach [e] X.env = (false, eval e X.env) :: starEach [] X.env := by rfl) (hpl : (backTo pos (starEach [] X.env)).any (·.1) = false := by rfl) : EE X C Γ Ts (.Call (.Name "len" nm) [e] [] pos) Γ1 (.im (.int ds.length)) :=
  cb_wk (cls_1 fun x H hx Q q => by
    unfold rD at hx
    obtain ⟨a, us, e, hl, rd⟩ := hx
    subst e
    exact ⟨a, us, rfl, .inr (by rw [hK]; exact hl), q _ (by unfold rD; rw [rd.len])⟩) (pe_callB call_len_seq hg hm PySem.boot_len (ea_cons h ea_nil he) (by decide) (by decide) he hpl)
end
end RL

set_option maxHeartbeats 2000000
/-! RL8: what loops walk, comprehensions, a def's body -/
namespace RL
open PySem L2

section
variable {X : Cx} {C : Cn} {Γ Γ1 Γ2 Γ3 Γ' : Ctx} {Ts Hs : List T} {t t1 t2 t3 : T} {ts : List T} {e a b c tg iter elt : Expr} {es rest ifs : List Expr} {pos p p2 nm : Pos} {i j : Nat} {d d1 d2 d3 : D} {ds ds' : List D} {m : M} {b1 b2 k : Bool} {hx : V → T} {cond : Ctx → Prop} {body : List Stmt}
theorem it_wk (h : IT X C Hs tg iter Γ Γ1 hx cond ds) (w : wkL Γ2 Γ1) : IT X C Hs tg iter Γ Γ2 hx cond ds := h.wk fun σ H R ⟨hs, h0, q⟩ => ⟨hs, h0, fun v J H1 hA g => q v J H1 (hA.wk w) g⟩
theorem it_tup (h : EE X C Γ Hs iter Γ1 (.im (.tup ds))) (hK : X.K = C.K := by rfl) : IT X C Hs tg iter Γ Γ1 (fun v => .hid (.im (.tup ds)) v) (fun _ => True) ds := (pi_tup h).wk fun σ H R ⟨hs, h0, q⟩ => ⟨hs, h0, fun v H1 h1 => by
  have r := h1.topIm
  unfold rD at r
  obtain ⟨a, us, e, hq, rd⟩ := r
  subst e
  refine ⟨a, rfl, ⟨us, by rw [hK]; exact hq⟩, q (.ref a) _ H1 h1.hide ⟨fun H => ∃ xs, SqT X.K H a xs ∧ rDs C.K ds xs H, fun i H x H' => H' = H ∧ ∃ d, ds[i]? = some d ∧ rD C.K d x H, ⟨?_, ?_, ?_⟩, ?_, ?_⟩⟩
  · rintro i H hi ⟨xs, s, r⟩
    obtain ⟨u, hu, _⟩ := r.get (List.getElem?_eq_getElem hi)
    exact ⟨xs, u, s, hu⟩
  · rintro H ⟨xs, s, r⟩
    exact ⟨xs, s, Nat.le_of_eq r.len⟩
  · rintro i H x H' hi ⟨xs, s, r⟩ ⟨e1, y⟩
    exact ⟨e1, r.get2 (y xs s)⟩
  · intro Γ' σ' hs' H' _ hA
    obtain ⟨F, ⟨_, r⟩, _⟩ := hA.top
    unfold rM at r
    have r := r.1
    unfold rD at r
    obtain ⟨a', us', e', hq', rd'⟩ := r
    cases e'
    exact ⟨us', by rw [hK]; exact hq', rd'⟩
  · rintro i H' x H'' hi _ ⟨e1, d, hd, rd⟩
    subst e1
    exact ⟨Ext.refl, d, hd, rd⟩⟩
theorem walk_lst {K : PySem.W.Frag} {a : Addr} : Walk (Itl K a) ds.length (fun H => ∃ xs, SqL K H a xs ∧ rDs K ds xs H) (fun i H x H' => H' = H ∧ ∃ d, ds[i]? = some d ∧ rD K d x H) := by
  refine ⟨?_, ?_, ?_⟩
  · rintro i H hi ⟨xs, s, r⟩
    obtain ⟨u, hu, _⟩ := r.get (List.getElem?_eq_getElem hi)
    exact ⟨xs, u, s, hu⟩
  · rintro H ⟨xs, s, r⟩
    exact ⟨xs, s, Nat.le_of_eq r.len⟩
  · rintro i H x H' hi ⟨xs, s, r⟩ ⟨e1, y⟩
    exact ⟨e1, r.get2 (y xs s)⟩
theorem it_lstH (h : EE X C Γ Hs iter Γ1 (.own (.li ds))) (hK : X.K = C.K := by rfl) : IT X C Hs tg iter Γ Γ1 (fun v => .hid (.li ds) v) (fun _ => True) ds := (pi_list h).wk fun σ H R ⟨hs, h0, q⟩ => ⟨hs, h0, fun v H1 h1 => by
  obtain ⟨a, us, e, hl, rd⟩ := h1.src .own
  subst e
  refine ⟨a, rfl, ⟨us, by rw [hK]; exact hl⟩, q (.ref a) _ H1 h1.hide ⟨_, _, (by rw [hK]; exact walk_lst), ?_, ?_⟩⟩
  · intro Γ' σ' hs' H' _ hA
    obtain ⟨F, ⟨_, r⟩, _⟩ := hA.top
    unfold rM at r
    obtain ⟨a', us', e', hl', rd', _⟩ := r
    cases e'
    exact ⟨us', SqL.of hl', rd'⟩
  · rintro i H' x H'' hi _ ⟨e1, d, hd, rd⟩
    subst e1
    exact ⟨Ext.refl, d, hd, rd⟩⟩
theorem it_lstV (j : Nat) (h : EE X C Γ Hs iter Γ1 (.al j)) (hj : Γ1[j]? = some (some (.li ds))) (hK : X.K = C.K := by rfl) : IT X C Hs tg iter Γ Γ1 (fun v => .hal j v) (fun Γ' => Γ'[j]? = some (some (.li ds))) ds := (pi_list h).wk fun σ H R ⟨hs, h0, q⟩ => ⟨hs, h0, fun v H1 h1 => by
  obtain ⟨a, us, e, hl, rd⟩ := h1.src (.al hj)
  subst e
  refine ⟨a, rfl, ⟨us, by rw [hK]; exact hl⟩, q (.ref a) _ H1 h1.hideAl ⟨_, _, (by rw [hK]; exact walk_lst), ?_, ?_⟩⟩
  · intro Γ' σ' hs' H' hc hA
    obtain ⟨F, ⟨_, hσ, _⟩, _⟩ := hA.top
    obtain ⟨w, F2, hw, r, _⟩ := hA.slot hc
    rw [hσ] at hw
    cases hw
    unfold rM at r
    obtain ⟨a', us', e', hl', rd', _⟩ := r
    cases e'
    exact ⟨us', SqL.of hl', rd'⟩
  · rintro i H' x H'' hi _ ⟨e1, d, hd, rd⟩
    subst e1
    exact ⟨Ext.refl, d, hd, rd⟩⟩
/-- the numbers from lo on below hi -/
def rng (lo hi : Int) : List Int := (List.range (hi - lo).toNat).map fun i => lo + (i : Nat)
theorem rng_length {lo hi : Int} : (rng lo hi).length = (hi - lo).toNat := by unfold rng; simp
theorem rng_get {lo hi : Int} {i : Nat} (h : i < (hi - lo).toNat) : ((rng lo hi).map D.int)[i]? = some (.int (lo + (i : Nat))) := by
  unfold rng
  simp [h]
theorem it_rngW {lo n : Int} (R : It → Hp → Prop) {σ : L2.St} {hs : List V} {H : Hp} (h : As C Γ1 Hs σ hs H)
    (q : ∀ v J H1, As C Γ1 (Hs ++ [(fun v => T.hid (.im .non) v) v]) σ (hs ++ [v]) H1 → (∃ G Y, Walk J ((rng lo n).map D.int).length G Y ∧ (∀ Γ' σ' hs' H', True → As C Γ' (Hs ++ [(fun v => T.hid (.im .non) v) v]) σ' (hs' ++ [v]) H' → G H') ∧
      ∀ i H' x H'', i < ((rng lo n).map D.int).length → G H' → Y i H' x H'' → Ext H' H'' ∧ ∃ d, ((rng lo n).map D.int)[i]? = some d ∧ rD C.K d x H'') → R J H1) : R (Itr lo (n - lo).toNat) H := by
  have h1 : As C Γ1 (Hs ++ [.im .non]) σ (hs ++ [.non]) H := h.pushIm Ext.refl (by unfold rD; rfl)
  refine q .non _ H h1.hide ⟨_, _, (by rw [List.length_map, rng_length]; exact walk_range), fun _ _ _ _ _ _ => trivial, ?_⟩
  rintro i H' x H'' hi _ ⟨e1, e2⟩
  subst e1
  rw [List.length_map, rng_length] at hi
  exact ⟨Ext.refl, _, rng_get hi, by unfold rD; exact e2⟩
theorem it_rng1 {n : Int} (hm : X.mg "range" = none) (h : EE X C Γ Hs a Γ1 (.im (.int n))) (h1 : -(2 ^ 62) ≤ n) (h2 : n < 2 ^ 62) (hg : Gl X "range" := by rfl) (hs : starEach [a] X.env = (false, eval a X.env) :: starEach [] X.env := by rfl) (hs2 : starEach [a] X.env = [(false, eval a X.env)] := by rfl) : IT X C Hs tg (.Call (.Name "range" p) [a] [] pos) Γ Γ1 (fun v => .hid (.im .non) v) (fun _ => True) ((rng 0 n).map D.int) :=
  (pi_range1 hg hm (ea_cons h ea_nil hs) hs2).wk fun σ H R ⟨hs, h0, q⟩ => ⟨hs, h0, fun us H1 hl hA => by
    obtain ⟨u, rfl⟩ : ∃ u, us = [u] := List.length_eq_one_iff.mp hl
    have e := hA.topIm
    unfold rD at e
    subst e
    refine ⟨n, rfl, h1, h2, ?_⟩
    have z := it_rngW (lo := 0) (n := n) R hA.pop q
    rw [Int.sub_zero] at z
    exact z⟩
theorem it_rng2 {lo n : Int} (hm : X.mg "range" = none) (h : EE X C Γ Hs a Γ1 (.im (.int lo))) (h' : EE X C Γ1 (Hs ++ [.im (.int lo)]) b Γ2 (.im (.int n))) (h1 : -(2 ^ 62) ≤ lo) (h2 : lo < 2 ^ 62) (h3 : -(2 ^ 62) ≤ n) (h4 : n < 2 ^ 62) (hg : Gl X "range" := by rfl) (hs : starEach [a, b] X.env = (false, eval a X.env) :: starEach [b] X.env := by rfl) (hsb : starEach [b] X.env = (false, eval b X.env) :: starEach [] X.env := by rfl) (hs1 : starEach [a, b] X.env = [(false, eval a X.env), (false, eval b X.env)] := by rfl) (hs2 : starEach [b] X.env = [(false, eval b X.env)] := by rfl) : IT X C Hs tg (.Call (.Name "range" p) [a, b] [] pos) Γ Γ2 (fun v => .hid (.im .non) v) (fun _ => True) ((rng lo n).map D.int) :=
  (pi_range2 hg hm (ea_cons h (ea_cons h' ea_nil hsb) hs) hs1 hs2).wk fun σ H R ⟨hs, h0, q⟩ => ⟨hs, h0, fun us H1 hl hA => by
    obtain ⟨u, w, rfl⟩ : ∃ u w, us = [u, w] := match us, hl with | [u, w], _ => ⟨u, w, rfl⟩
    have hA' : As C Γ2 ((Hs ++ [.im (.int lo)]) ++ [.im (.int n)]) σ ((hs ++ [u]) ++ [w]) H1 := by simpa using hA
    have e := hA'.topIm
    have e' := hA'.pop.topIm
    unfold rD at e e'
    subst e e'
    exact ⟨lo, n, rfl, ⟨h1, h2, h3, h4⟩, it_rngW (lo := lo) (n := n) R hA'.pop.pop q⟩⟩
/-! #### enumerate -/
def enumD (ds : List D) : List D := ds.mapIdx fun i d => D.tup [.int i, d]
theorem enumD_get {i : Nat} {d : D} (h : ds[i]? = some d) : (enumD ds)[i]? = some (.tup [.int i, d]) := by
  unfold enumD
  rw [List.getElem?_mapIdx, h] <;> rfl
theorem rD_pair {K : PySem.W.Frag} {H : Hp} {q : Addr} {x : V} {i : Nat} {d : D} (hq : H q = some (.tup [.int (i : Nat), x])) (r : rD K d x H) : rD K (.tup [.int i, d]) (.ref q) H := by
  unfold rD
  refine ⟨q, _, rfl, SqT.of hq, ?_⟩
  unfold rDs
  exact ⟨_, _, rfl, by unfold rD; rfl, .one r⟩
theorem it_enumT {elts : List Expr} {kk : Nat} {tpos : Pos} (hm : X.mg "enumerate" = none) (h : EE X C Γ Hs a Γ1 (.im (.tup ds))) (hg : Gl X "enumerate" := by rfl) (hK : X.K = C.K := by rfl) (hs : starEach [a] X.env = (false, eval a X.env) :: starEach [] X.env := by rfl) (hs2 : starEach [a] X.env = [(false, eval a X.env)] := by rfl) :
    IT X C Hs (.Tuple elts kk tpos) (.Call (.Name "enumerate" p) [a] [] pos) Γ Γ1 (fun v => .hid (.im (.tup ds)) v) (fun _ => True) (enumD ds) :=
  (pi_enumT hg hm (ea_cons h ea_nil hs) hs2).wk fun σ H R ⟨hs, h0, q⟩ => ⟨hs, h0, fun us H1 hl h1 => by
    obtain ⟨u, rfl⟩ : ∃ u, us = [u] := List.length_eq_one_iff.mp hl
    have r := h1.topIm
    unfold rD at r
    obtain ⟨a, us, e, hq, rd⟩ := r
    subst e
    refine ⟨a, us, rfl, by rw [hK]; exact hq, q (.ref a) _ H1 h1.hide ⟨fun H => ∃ xs, SqT X.K H a xs ∧ rDs C.K ds xs H, fun i H x H' => Ext H H' ∧ ∃ d, (enumD ds)[i]? = some d ∧ rD C.K d x H', ⟨?_, ?_, ?_⟩, ?_, ?_⟩⟩
    · rintro i H hi ⟨xs, s, r⟩
      unfold enumD at hi
      rw [List.length_mapIdx] at hi
      obtain ⟨u, hu, _⟩ := r.get (List.getElem?_eq_getElem hi)
      exact ⟨xs, u, s, hu⟩
    · rintro H ⟨xs, s, r⟩
      exact ⟨xs, s, by unfold enumD; rw [List.length_mapIdx]; exact Nat.le_of_eq r.len⟩
    · rintro i H x H' hi ⟨xs, s, r⟩ ⟨q1, x1, e1, hn, e2, y⟩
      subst e1 e2
      obtain ⟨d, hd, rd⟩ := r.get2 (y xs s)
      exact ⟨Ext.new hn, _, enumD_get hd, rD_pair upd_same (rd.tf (Ext.new hn).tf)⟩
    · intro Γ' σ' hs' H' _ hA
      obtain ⟨F, ⟨_, r⟩, _⟩ := hA.top
      unfold rM at r
      have r := r.1
      unfold rD at r
      obtain ⟨a', us', e', hq', rd'⟩ := r
      cases e'
      exact ⟨us', by rw [hK]; exact hq', rd'⟩
    · rintro i H' x H'' hi _ ⟨e1, d, hd, rd⟩
      exact ⟨e1, d, hd, rd⟩⟩
theorem walk_enumL {K : PySem.W.Frag} {a : Addr} : Walk (Ite K a) (enumD ds).length (fun H => ∃ xs, SqL K H a xs ∧ rDs K ds xs H) (fun i H x H' => Ext H H' ∧ ∃ d, (enumD ds)[i]? = some d ∧ rD K d x H') := by
  refine ⟨?_, ?_, ?_⟩
  · rintro i H hi ⟨xs, s, r⟩
    unfold enumD at hi
    rw [List.length_mapIdx] at hi
    obtain ⟨u, hu, _⟩ := r.get (List.getElem?_eq_getElem hi)
    exact ⟨xs, u, s, hu⟩
  · rintro H ⟨xs, s, r⟩
    exact ⟨xs, s, by unfold enumD; rw [List.length_mapIdx]; exact Nat.le_of_eq r.len⟩
  · rintro i H x H' hi ⟨xs, s, r⟩ ⟨q1, x1, e1, hn, e2, y⟩
    subst e1 e2
    obtain ⟨d, hd, rd⟩ := r.get2 (y xs s)
    exact ⟨Ext.new hn, _, enumD_get hd, rD_pair upd_same (rd.tf (Ext.new hn).tf)⟩
theorem it_enumV {elts : List Expr} {kk : Nat} {tpos : Pos} (j : Nat) (hm : X.mg "enumerate" = none) (h : EE X C Γ Hs a Γ1 (.al j)) (hj : Γ1[j]? = some (some (.li ds))) (hg : Gl X "enumerate" := by rfl) (hK : X.K = C.K := by rfl) (hs : starEach [a] X.env = (false, eval a X.env) :: starEach [] X.env := by rfl) (hs2 : starEach [a] X.env = [(false, eval a X.env)] := by rfl) :
    IT X C Hs (.Tuple elts kk tpos) (.Call (.Name "enumerate" p) [a] [] pos) Γ Γ1 (fun v => .hal j v) (fun Γ' => Γ'[j]? = some (some (.li ds))) (enumD ds) :=
  (pi_enum hg hm (ea_cons h ea_nil hs) hs2).wk fun σ H R ⟨hs, h0, q⟩ => ⟨hs, h0, fun us H1 hl h1 => by
    obtain ⟨u, rfl⟩ : ∃ u, us = [u] := List.length_eq_one_iff.mp hl
    obtain ⟨a, us, e, hw, rd⟩ := h1.src (.al hj)
    subst e
    refine ⟨a, us, rfl, by rw [hK]; exact hw, q (.ref a) _ H1 h1.hideAl ⟨_, _, (by rw [hK]; exact walk_enumL), ?_, ?_⟩⟩
    · intro Γ' σ' hs' H' hc hA
      obtain ⟨F, ⟨_, hσ, _⟩, _⟩ := hA.top
      obtain ⟨w, F2, hw, r, _⟩ := hA.slot hc
      rw [hσ] at hw
      cases hw
      unfold rM at r
      obtain ⟨a', us', e', hl', rd', _⟩ := r
      cases e'
      exact ⟨us', SqL.of hl', rd'⟩
    · rintro i H' x H'' hi _ ⟨e1, d, hd, rd⟩
      exact ⟨e1, d, hd, rd⟩⟩
theorem it_enumH {elts : List Expr} {kk : Nat} {tpos : Pos} (hm : X.mg "enumerate" = none) (h : EE X C Γ Hs a Γ1 (.own (.li ds))) (hg : Gl X "enumerate" := by rfl) (hK : X.K = C.K := by rfl) (hs : starEach [a] X.env = (false, eval a X.env) :: starEach [] X.env := by rfl) (hs2 : starEach [a] X.env = [(false, eval a X.env)] := by rfl) :
    IT X C Hs (.Tuple elts kk tpos) (.Call (.Name "enumerate" p) [a] [] pos) Γ Γ1 (fun v => .hid (.li ds) v) (fun _ => True) (enumD ds) :=
  (pi_enum hg hm (ea_cons h ea_nil hs) hs2).wk fun σ H R ⟨hs, h0, q⟩ => ⟨hs, h0, fun us H1 hl h1 => by
    obtain ⟨u, rfl⟩ : ∃ u, us = [u] := List.length_eq_one_iff.mp hl
    obtain ⟨a, us, e, hw, rd⟩ := h1.src .own
    subst e
    refine ⟨a, us, rfl, by rw [hK]; exact hw, q (.ref a) _ H1 h1.hide ⟨_, _, (by rw [hK]; exact walk_enumL), ?_, ?_⟩⟩
    · intro Γ' σ' hs' H' hc hA
      obtain ⟨F, ⟨_, r⟩, _⟩ := hA.top
      unfold rM at r
      obtain ⟨a', us', e', hl', rd', _⟩ := r
      cases e'
      exact ⟨us', SqL.of hl', rd'⟩
    · rintro i H' x H'' hi _ ⟨e1, d, hd, rd⟩
      exact ⟨e1, d, hd, rd⟩⟩
end

/-! ### comprehensions -/
theorem wipe_in {σ : L2.St} {i : Nat} : ∀ {vs : List Nat}, i ∈ vs → i < σ.length → (wipe σ vs)[i]? = some none
  | [], h, _ => nomatch h
  | v :: vs, h, hl => by
    unfold wipe
    by_cases e : v = i
    · subst e
      rw [List.getElem?_set_self (by rw [wipe_length]; exact hl)]
    · rw [List.getElem?_set_ne e]
      rcases List.mem_cons.mp h with z | z
      · exact absurd z.symm e
      · exact wipe_in z hl
theorem wipe_of {σ σ' : L2.St} {J : List Nat} (a : Agree J σ σ') : wipe σ' J = wipe σ J := by
  apply List.ext_getElem?
  intro i
  by_cases h : i ∈ J
  · by_cases hl : i < σ.length
    · rw [wipe_in h hl, wipe_in h (by rw [a.1]; exact hl)]
    · have h1 := a.1
      have h2 : (wipe σ' J).length = σ'.length := wipe_length _ _
      have h3 : (wipe σ J).length = σ.length := wipe_length _ _
      rw [List.getElem?_eq_none (l := wipe σ' J) (by omega), List.getElem?_eq_none (l := wipe σ J) (by omega)]
  · rw [wipe_out h, wipe_out h, a.2 i h]
theorem agree_wipe {σ : L2.St} {J : List Nat} : Agree J σ (wipe σ J) := ⟨wipe_length _ _, fun i h => wipe_out h⟩
theorem Agree.symm {σ σ' : L2.St} {J : List Nat} (a : Agree J σ σ') : Agree J σ' σ := ⟨a.1.symm, fun i h => (a.2 i h).symm⟩
theorem wipe_wipe {σ : L2.St} {J : List Nat} : wipe (wipe σ J) J = wipe σ J := wipe_of agree_wipe
/-- nothing is told of the slots in J -/
def Bare (J : List Nat) (Γ : Ctx) : Prop := ∀ i ∈ J, ∀ m, Γ[i]? ≠ some (some m)
def FreeJ (J : List Nat) (Ts : List T) : Prop := ∀ i ∈ J, Free i Ts
theorem Free.append {i : Nat} : ∀ {a b : List T}, Free i a → Free i b → Free i (a ++ b)
  | [], _, _, h => h
  | _ :: _, _, ⟨h1, h2⟩, h => ⟨h1, h2.append h⟩
theorem lcM_cons {S α β : Type} {f : S → α → Option (S × Option β)} {s s1 : S} {x : α} {xs : List α} {ys : List β} (h : lcM f s (x :: xs) = some (s1, ys)) : ∃ s' od zs, f s x = some (s', od) ∧ lcM f s' xs = some (s1, zs) ∧ ys = (match od with | some d => d :: zs | none => zs) := by
  unfold lcM at h
  cases e : f s x with
  | none => rw [e] at h; cases h
  | some p =>
    obtain ⟨s', od⟩ := p
    rw [e] at h
    cases e2 : lcM f s' xs with
    | none => simp [e2] at h
    | some q =>
      obtain ⟨s2, zs⟩ := q
      simp only [Option.bind_some, e2, Option.some.injEq, Prod.mk.injEq] at h
      exact ⟨s', od, zs, rfl, by rw [← h.1]; exact e2, h.2.symm⟩
section
variable {X : Cx} {C : Cn} {Γ Γ1 Γ2 Γ3 Γ' : Ctx} {Ts Hs : List T} {t t1 t2 t3 : T} {ts : List T} {e a b c tg iter elt : Expr} {es rest ifs : List Expr} {pos p p2 nm : Pos} {i j : Nat} {d d1 d2 d3 : D} {ds ds' : List D} {m : M} {b1 b2 k : Bool} {hx : V → T} {cond : Ctx → Prop} {body : List Stmt}
  {S α β : Type} {f : S → α → Option (S × Option β)} {enc : α → D} {eb : β → D} {xs : List α} {s0 s1 : S} {ys : List β} {Γs : S → Ctx} {Γt Γu : S → α → Ctx} {tb : S → α → Bool} {own : List (Str × Nat)} {scope : Scope}
/-- what a comprehension's parts do -/
structure Lc (X : Cx) (C : Cn) (Ts : List T) (Γ : Ctx) (tg iter elt : Expr) (ifs : List Expr) (scope : Scope) (own : List (Str × Nat)) (f : S → α → Option (S × Option β)) (enc : α → D) (eb : β → D) (xs : List α) (s0 : S) (Γs : S → Ctx) (Γt Γu : S → α → Ctx) (tb : S → α → Bool) (hx : V → T) (cond : Ctx → Prop) : Prop where
  fx : Fix hx
  it : IT X C Ts tg iter Γ (Γs s0) hx cond (xs.map enc)
  cd : ∀ s, cond (Γs s)
  gt : ∀ (s : Shared) (H : Hp) (Ca : Addr) (cl : List (Str × Addr)) (fp : List Addr) (v q : V) (acc : List D) (st : S) (x : α), GT (X.blk s H scope (compEnvC scope cl Ca X.env) fp) C (Ts ++ [hx v] ++ [.hid (.li acc) q]) (Γs st) tg (enc x) (Γt st x) (own.map (·.2))
  tt : ∀ (s : Shared) (H : Hp) (Ca : Addr) (cl : List (Str × Addr)) (fp : List Addr) (v q : V) (acc : List D) (st : S) (x : α), PTs (X.blk s H scope (compEnvC scope cl Ca X.env) fp) ifs (tr C (Γt st x) (Ts ++ [hx v] ++ [.hid (.li acc) q]) (Γu st x) (tb st x))
  el : ∀ (s : Shared) (H : Hp) (Ca : Addr) (cl : List (Str × Addr)) (fp : List Addr) (v q : V) (acc : List D) (st : S) (x : α) (st' : S) (y : β), tb st x = true → f st x = some (st', some y) → EE (X.blk s H scope (compEnvC scope cl Ca X.env) fp) C (Γu st x) (Ts ++ [hx v] ++ [.hid (.li acc) q]) elt (Γs st') (.im (eb y))
  ft : ∀ st x r, tb st x = true → f st x = some r → ∃ d, r.2 = some d
  ff : ∀ st x r, tb st x = false → f st x = some r → r.2 = none ∧ wkL (Γs r.1) (Γu st x)
  br : ∀ s, Bare (own.map (·.2)) (Γs s)
  fr : FreeJ (own.map (·.2)) Ts
  fh : ∀ v, FreeJ (own.map (·.2)) [hx v]
  pn : ∀ p ∈ C.pin, p.1 ∉ own.map (·.2)
  ln : xs.length ≤ sizeLine
def lcG (C : Cn) (Ts : List T) (own : List (Str × Nat)) (enc : α → D) (Γs : S → Ctx) (Γt : S → α → Ctx) (hx : V → T) : TG := fun v σ H Q => ∃ q : V × V × List D × S × α, True ∧ gr C (Γs q.2.2.2.1) (Ts ++ [hx q.1] ++ [.hid (.li q.2.2.1) q.2.1]) (enc q.2.2.2.2) (Γt q.2.2.2.1 q.2.2.2.2) (own.map (·.2)) v σ H Q
def lcT (C : Cn) (Ts : List T) (Γt Γu : S → α → Ctx) (tb : S → α → Bool) (hx : V → T) : TT := fun σ H Q => ∃ q : V × V × List D × S × α, True ∧ tr C (Γt q.2.2.2.1 q.2.2.2.2) (Ts ++ [hx q.1] ++ [.hid (.li q.2.2.1) q.2.1]) (Γu q.2.2.2.1 q.2.2.2.2) (tb q.2.2.2.1 q.2.2.2.2) σ H Q
def lcE (C : Cn) (Ts : List T) (f : S → α → Option (S × Option β)) (eb : β → D) (Γs : S → Ctx) (Γu : S → α → Ctx) (tb : S → α → Bool) (hx : V → T) : TE := fun σ H Q => ∃ q : V × V × List D × S × α × S × β, (tb q.2.2.2.1 q.2.2.2.2.1 = true ∧ f q.2.2.2.1 q.2.2.2.2.1 = some (q.2.2.2.2.2.1, some q.2.2.2.2.2.2)) ∧
  er C (Γu q.2.2.2.1 q.2.2.2.2.1) (Ts ++ [hx q.1] ++ [.hid (.li q.2.2.1) q.2.1]) (Γs q.2.2.2.2.2.1) (.im (eb q.2.2.2.2.2.2)) σ H Q
theorem Lc.sat (L : Lc X C Ts Γ tg iter elt ifs scope own f enc eb xs s0 Γs Γt Γu tb hx cond) (h : lcM f s0 xs = some (s1, ys)) {σ : L2.St} {vs : List V} {H : Hp} {Q : VK} (h0 : As C Γ Ts σ vs H) (q : ∀ z H', As C (Γs s1) (Ts ++ [.own (.li (ys.map eb))]) σ (vs ++ [z]) H' → Q z H') :
    tLc (ir C Γ Ts (Γs s0) hx cond (xs.map enc)) (lcG C Ts own enc Γs Γt hx) (lcT C Ts Γt Γu tb hx) (lcE C Ts f eb Γs Γu tb hx) (own.map (·.2)) σ H Q := by
  refine ⟨vs, h0, fun v Ji H1 hA ⟨G, Y, w, g1, g2⟩ Dd hD => ?_⟩
  rw [List.length_map] at w g2
  have fr2 : FreeJ (own.map (·.2)) (Ts ++ [hx v]) := fun i hi => (L.fr i hi).append (L.fh v i hi)
  have fr3 : ∀ acc, FreeJ (own.map (·.2)) (Ts ++ [hx v] ++ [.hid (.li acc) (.ref Dd)]) := fun acc i hi => (fr2 i hi).append ⟨trivial, trivial⟩
  have hA1 : As C (Γs s0) (Ts ++ [hx v]) (wipe σ (own.map (·.2))) (vs ++ [v]) H1 := hA.sig (wipe_length _ _) (fun i hi => wipe_out hi) (L.br s0) fr2 L.pn
  have hA2 : As C (Γs s0) (Ts ++ [hx v] ++ [.hid (.li []) (.ref Dd)]) (wipe σ (own.map (·.2))) (vs ++ [v] ++ [.ref Dd]) (upd H1 Dd (.lst [])) := by
    refine hA1.push (Ext.new hD) (t := .hid (.li []) (.ref Dd)) (F := fun a => a = Dd) ⟨rfl, ?_⟩ (fun a e => by rw [e]; exact hD) fun a e => by rw [e, upd_same]; trivial
    unfold rM
    exact ⟨Dd, [], rfl, upd_same, by unfold rDs; rfl, fun b => Iff.rfl⟩
  refine lc_it (g := lcG C Ts own enc Γs Γt hx) (tt := lcT C Ts Γt Γu tb hx) (te := lcE C Ts f eb Γs Γu tb hx) w (fun i H => ∃ (st : S) (acc zs : List β), As C (Γs st) (Ts ++ [hx v] ++ [.hid (.li (acc.map eb)) (.ref Dd)]) (wipe σ (own.map (·.2))) (vs ++ [v] ++ [.ref Dd]) H ∧ lcM f st (xs.drop i) = some (s1, zs) ∧ ys = acc ++ zs ∧ acc.length ≤ i)
    ⟨s0, [], ys, hA2, by simpa using h, rfl, Nat.le_refl _⟩ (fun i H hi ⟨st, acc, zs, hB, _⟩ => g1 _ _ _ H (L.cd st) hB.pop) (fun i x H H' hi ⟨st, acc, zs, hB, hm, hy, hlen⟩ y => ?_) (fun H ⟨st, acc, zs, hB, hm, hy, _⟩ => ?_)
  · obtain ⟨ex, d, hd, rd⟩ := g2 i H x H' hi (g1 _ _ _ H (L.cd st) hB.pop) y
    rw [List.getElem?_map, List.getElem?_eq_getElem hi] at hd
    cases hd
    rw [List.drop_eq_getElem_cons hi] at hm
    obtain ⟨st', od, zs', hf, hm', hz⟩ := lcM_cons hm
    refine ⟨(v, .ref Dd, acc.map eb, st, xs[i]), trivial, _, hB.ext ex, rd, fun σ2 ag h2 => ?_⟩
    refine ⟨by rw [wipe_of ag, wipe_wipe], (v, .ref Dd, acc.map eb, st, xs[i]), trivial, _, h2, fun H3 h3 => ?_⟩
    have ag2 : Agree (own.map (·.2)) (wipe σ (own.map (·.2))) σ2 := ag
    cases hb : tb st xs[i] with
    | true =>
      show (if true = true then _ else _)
      rw [if_pos rfl]
      obtain ⟨d, hod⟩ := L.ft st xs[i] _ hb hf
      cases hod
      refine ⟨(v, .ref Dd, acc.map eb, st, xs[i], st', d), ⟨hb, hf⟩, _, h3, fun yv H4 h4 => ?_⟩
      have rdy := h4.topIm
      have h5 := h4.pop
      obtain ⟨F, ⟨e5, r5⟩, up⟩ := h5.top
      unfold rM at r5
      obtain ⟨a5, us5, ea, hl5, rd5, hF5⟩ := r5
      cases ea
      refine ⟨us5, hl5, by rw [rd5.len, List.length_map]; exact Nat.lt_of_le_of_lt hlen (Nat.lt_of_lt_of_le hi L.ln), st', acc ++ [d], zs', ?_, hm', by rw [hy, hz]; simp, by simp; omega⟩
      have mu : Mut (H4 Dd) := by rw [hl5]; trivial
      have h6 : As C (Γs st') (Ts ++ [hx v] ++ [.hid (.li ((acc ++ [d]).map eb)) (.ref Dd)]) σ2 (vs ++ [v] ++ [.ref Dd]) (upd H4 Dd (.lst (us5 ++ [yv]))) := by
        refine up (.hid (.li ((acc ++ [d]).map eb)) (.ref Dd)) (.ref Dd) _ F (TF.write mu) (fun b nb _ => upd_ne fun z => nb ((hF5 b).2 z)) ⟨rfl, ?_⟩ (fun b hb => .inl hb) fun b hb => by rw [(hF5 b).1 hb, upd_same]; trivial
        unfold rM
        rw [List.map_append]
        exact ⟨Dd, _, rfl, upd_same, (rd5.app (.one rdy)).tf (TF.write mu), hF5⟩
      exact h6.sig (by rw [ag2.1]) (fun i hi => (ag2.2 i hi).symm) (L.br st') (fr3 _) L.pn
    | false =>
      show (if false = true then _ else _)
      rw [if_neg Bool.false_ne_true]
      obtain ⟨ho, hw⟩ := L.ff st xs[i] _ hb hf
      cases ho
      have h5 := h3.wk hw
      exact ⟨st', acc, zs', h5.sig (by rw [ag2.1]) (fun i hi => (ag2.2 i hi).symm) (L.br st') (fr3 _) L.pn, hm', by rw [hy, hz], by omega⟩
  · rw [List.drop_length] at hm
    unfold lcM at hm
    cases hm
    rw [List.append_nil] at hy
    subst hy
    have h7 : As C (Γs s1) (Ts ++ [.own (.li (ys.map eb))]) (wipe σ (own.map (·.2))) (vs ++ [.ref Dd]) H := by
      obtain ⟨F, ⟨_, r⟩, up⟩ := hB.top
      have z : As C (Γs s1) (Ts ++ [hx v] ++ [.own (.li (ys.map eb))]) (wipe σ (own.map (·.2))) (vs ++ [v] ++ [.ref Dd]) H := up (.own (.li (ys.map eb))) (.ref Dd) H F TF.refl (fun _ _ _ => rfl) r (fun a ha => .inl ha) fun a ha => rM.mut r ha
      exact z.mid
    exact q (.ref Dd) H (h7.sig (wipe_length _ _).symm (fun i hi => (wipe_out hi).symm) (L.br s1) (fun i hi => (L.fr i hi).append ⟨trivial, trivial⟩) L.pn)
theorem ee_lc (hcm : X.calm = true) (hN : X.N.Nodup) (ok : BlkOk X.N X.env.scope scope own) (L : Lc X C Ts Γ tg iter elt ifs scope own f enc eb xs s0 Γs Γt Γu tb hx cond) (h : lcM f s0 xs = some (s1, ys)) (hs : ∀ x, foldedSetIterable iter X.env x = pure x := by intro _; rfl) :
    EE X C Γ Ts (.ListComp elt [⟨tg, iter, ifs, 0⟩] scope pos) (Γs s1) (.own (.li (ys.map eb))) := by
  have r := pe_lc (pos := pos) hcm hN L.it ok (g := lcG C Ts own enc Γs Γt hx) (tt := lcT C Ts Γt Γu tb hx) (te := lcE C Ts f eb Γs Γu tb hx)
    (fun s H Ca cl fp => PG.ex (ι := V × V × List D × S × α) (P := fun _ => True) fun q _ => L.gt s H Ca cl fp q.1 q.2.1 q.2.2.1 q.2.2.2.1 q.2.2.2.2)
    (fun s H Ca cl fp => PTs.ex (ι := V × V × List D × S × α) (P := fun _ => True) fun q _ => L.tt s H Ca cl fp q.1 q.2.1 q.2.2.1 q.2.2.2.1 q.2.2.2.2)
    (fun s H Ca cl fp => PE.ex (ι := V × V × List D × S × α × S × β) (P := fun q => tb q.2.2.2.1 q.2.2.2.2.1 = true ∧ f q.2.2.2.1 q.2.2.2.2.1 = some (q.2.2.2.2.2.1, some q.2.2.2.2.2.2)) fun q hq => L.el s H Ca cl fp q.1 q.2.1 q.2.2.1 q.2.2.2.1 q.2.2.2.2.1 q.2.2.2.2.2.1 q.2.2.2.2.2.2 hq.1 hq.2) hs
  refine r.wk fun σ H Q ⟨vs, h0, q⟩ => L.sat h h0 q
end
end RL

set_option maxHeartbeats 2000000
/-! RL9: more statements, more of lists, a def's body -/
namespace RL
open PySem L2

section
variable {X : Cx} {C : Cn} {Γ Γ1 Γ2 Γ3 Γ' : Ctx} {Ts Hs : List T} {t t1 t2 t3 : T} {ts : List T} {e a b c tg iter elt : Expr} {es rest ifs : List Expr} {pos p p2 nm px py pz pt spos : Pos} {i j l : Nat} {d d1 d2 d3 : D} {ds ds' : List D} {m m1 m2 m3 : M} {b1 b2 k : Bool} {hx : V → T} {cond : Ctx → Prop} {body : List Stmt}
  {S α β : Type} {f : S → α → Option (S × Option β)} {enc : α → D} {eb : β → D} {xs : List α} {s0 s1 : S} {ys : List β} {Γs : S → Ctx} {Γt Γu : S → α → Ctx} {tb : S → α → Bool} {own : List (Str × Nat)} {scope : Scope}
theorem free1 : Free i [.own m] := ⟨trivial, trivial⟩
/-- y = [..] -/
theorem s_setLc (i : Nat) {y : Str} (hcm : X.calm = true) (hN : X.N.Nodup) (hy : X.N[i]? = some y) (hyl : X.env.scope.names.lookup y = some .local) (hp : ∀ p ∈ C.pin, p.1 ≠ i) (hf : Free i Hs) (ok : BlkOk X.N X.env.scope scope own)
    (L : Lc X C Hs Γ tg iter elt ifs scope own f enc eb xs s0 Γs Γt Γu tb hx cond) (h : lcM f s0 xs = some (s1, ys)) (hsw : swapsWith (.ListComp elt [⟨tg, iter, ifs, 0⟩] scope pos) (some (.Name y py)) spos.line X.env = pure true) (hs : ∀ x, foldedSetIterable iter X.env x = pure x := by intro _; rfl) :
    S1 X C Hs Γ (.Assign [.Name y py] (.ListComp elt [⟨tg, iter, ifs, 0⟩] scope pos) spos) (.nx ((Γs s1).set i (some (.li (ys.map eb))))) := by
  have r := ps_setLc (pos := pos) (spos := spos) hcm hN hy hyl hsw L.it ok (g := lcG C Hs own enc Γs Γt hx) (tt := lcT C Hs Γt Γu tb hx) (te := lcE C Hs f eb Γs Γu tb hx)
    (fun s H Ca cl fp => PG.ex (ι := V × V × List D × S × α) (P := fun _ => True) fun q _ => L.gt s H Ca cl fp q.1 q.2.1 q.2.2.1 q.2.2.2.1 q.2.2.2.2)
    (fun s H Ca cl fp => PTs.ex (ι := V × V × List D × S × α) (P := fun _ => True) fun q _ => L.tt s H Ca cl fp q.1 q.2.1 q.2.2.1 q.2.2.2.1 q.2.2.2.2)
    (fun s H Ca cl fp => PE.ex (ι := V × V × List D × S × α × S × β) (P := fun q => tb q.2.2.2.1 q.2.2.2.2.1 = true ∧ f q.2.2.2.1 q.2.2.2.2.1 = some (q.2.2.2.2.2.1, some q.2.2.2.2.2.2)) fun q hq => L.el s H Ca cl fp q.1 q.2.1 q.2.2.1 q.2.2.2.1 q.2.2.2.2.1 q.2.2.2.2.2.1 q.2.2.2.2.2.2 hq.1 hq.2) hs
  exact r.wk fun σ H D ⟨⟨vs, h0⟩, q⟩ => L.sat h h0 fun z H' h' => q _ vs H' (h'.set hp hf)
/-- a, b = e1, e2 -/
theorem s_par2 (i j : Nat) {x y : Str} {kt k2 pt2} (hcm : X.calm = true) (hN : X.N.Nodup) (hi : X.N[i]? = some x) (hj : X.N[j]? = some y) (hij : i ≠ j) (hxl : X.env.scope.names.lookup x = some .local) (hyl : X.env.scope.names.lookup y = some .local)
    (hpi : ∀ p ∈ C.pin, p.1 ≠ i) (hpj : ∀ p ∈ C.pin, p.1 ≠ j) (hfi : Free i Hs) (hfj : Free j Hs) (ha : EA X C Γ Hs [a, b] Γ1 [.own m1, .own m2])
    (hw : swappedStores [.Tuple [.Name x px, .Name y py] kt pt] (.Tuple [a, b] k2 pt2) X.env = pure (some [x, y]) := by rfl)
    (hs : swapsWithSole [.Tuple [.Name x px, .Name y py] kt pt] (.Tuple [a, b] k2 pt2) pos.line X.env = pure false := by rfl) :
    S1 X C Hs Γ (.Assign [.Tuple [.Name x px, .Name y py] kt pt] (.Tuple [a, b] k2 pt2) pos) (.nx ((Γ1.set j (some m2)).set i (some m1))) :=
  (ps_par (pos := pos) hcm hN hi hj hij hxl hyl ha hw hs).wk fun σ H D ⟨⟨hs, h⟩, q⟩ => ⟨hs, h, fun us H1 hl h1 => by
    obtain ⟨u, w, rfl⟩ : ∃ u w, us = [u, w] := match us, hl with | [u, w], _ => ⟨u, w, rfl⟩
    refine ⟨u, w, rfl, ?_⟩
    have h2 : As C Γ1 ((Hs ++ [.own m1]) ++ [.own m2]) σ ((hs ++ [u]) ++ [w]) H1 := by simpa using h1
    have h3 := h2.set hpj (hfj.append free1)
    have h4 := h3.set hpi hfi
    have e : (σ.set j (some w)).set i (some u) = (σ.set i (some u)).set j (some w) := List.set_comm _ _ (Ne.symm hij)
    rw [e] at h4
    exact q _ hs H1 h4⟩
theorem s_par3 (i j l : Nat) {x y z : Str} {kt k2 pt2} (hcm : X.calm = true) (hN : X.N.Nodup) (hi : X.N[i]? = some x) (hj : X.N[j]? = some y) (hk : X.N[l]? = some z) (hij : i ≠ j) (hil : i ≠ l) (hjl : j ≠ l)
    (hxl : X.env.scope.names.lookup x = some .local) (hyl : X.env.scope.names.lookup y = some .local) (hzl : X.env.scope.names.lookup z = some .local)
    (hpi : ∀ p ∈ C.pin, p.1 ≠ i) (hpj : ∀ p ∈ C.pin, p.1 ≠ j) (hpl : ∀ p ∈ C.pin, p.1 ≠ l) (hfi : Free i Hs) (hfj : Free j Hs) (hfl : Free l Hs) (ha : EA X C Γ Hs [a, b, c] Γ1 [.own m1, .own m2, .own m3])
    (hw : swappedStores [.Tuple [.Name x px, .Name y py, .Name z pz] kt pt] (.Tuple [a, b, c] k2 pt2) X.env = pure (some [x, y, z]) := by rfl)
    (hs : swapsWithSole [.Tuple [.Name x px, .Name y py, .Name z pz] kt pt] (.Tuple [a, b, c] k2 pt2) pos.line X.env = pure false := by rfl) :
    S1 X C Hs Γ (.Assign [.Tuple [.Name x px, .Name y py, .Name z pz] kt pt] (.Tuple [a, b, c] k2 pt2) pos) (.nx (((Γ1.set l (some m3)).set j (some m2)).set i (some m1))) :=
  (ps_par3 (pos := pos) hcm hN hi hj hk hij hil hjl hxl hyl hzl ha hw hs).wk fun σ H D ⟨⟨hs, h⟩, q⟩ => ⟨hs, h, fun us H1 hl h1 => by
    obtain ⟨u, w, r, rfl⟩ : ∃ u w r, us = [u, w, r] := match us, hl with | [u, w, r], _ => ⟨u, w, r, rfl⟩
    refine ⟨u, w, r, rfl, ?_⟩
    have h2 : As C Γ1 (((Hs ++ [.own m1]) ++ [.own m2]) ++ [.own m3]) σ (((hs ++ [u]) ++ [w]) ++ [r]) H1 := by simpa using h1
    have h3 := h2.set hpl ((hfl.append free1).append free1)
    have h4 := h3.set hpj (hfj.append free1)
    have h5 := h4.set hpi hfi
    have e : ((σ.set l (some r)).set j (some w)).set i (some u) = ((σ.set i (some u)).set j (some w)).set l (some r) := by
      rw [List.set_comm _ _ (Ne.symm hij), List.set_comm (some r) (some u) (Ne.symm hil), List.set_comm (some r) (some w) (Ne.symm hjl)]
    rw [e] at h5
    exact q _ hs H1 h5⟩
/-! #### loops without a break -/
theorem s_for {f : S → α → Option S} {J : List Nat} (hcm : X.calm = true) (fx : Fix hx) (it : IT X C Hs tg iter Γ (Γs s0) hx cond (xs.map enc)) (hcond : ∀ s, cond (Γs s)) (gt : ∀ v s x, GT X C (Hs ++ [hx v]) (Γs s) tg (enc x) (Γt s x) J)
    (hb : ∀ v s x s', f s x = some s' → SS X C (Hs ++ [hx v]) (Γt s x) body (.nx (Γs s'))) (h : forS f s0 xs = some s1) (hf : ∀ x, foldedSetIterable iter X.env x = pure x := by intro _; rfl) (hp : PassesOwn (model X.prog X.w) X.A X.env X.xe := by exact PassesOwn.never) :
    S1 X C Hs Γ (.For tg iter body [] pos) (.nx (Γs s1)) :=
  s_forO (R := Unit) (ρ := fun _ => ([], .im .non)) (out := .nx s1) hcm fx it hcond gt (fun v s x out hf => by
    cases e : f s x with
    | none => rw [e] at hf; cases hf
    | some s' => rw [e] at hf; cases hf; exact hb v s x s' e) (forS_O h) hf hp
/-! #### more of lists -/
/-- two lists that are read -/
theorem ee_cat (h1 : EE X C Γ Ts a Γ1 t1) (h2 : EE X C Γ1 (Ts ++ [t1]) b Γ2 t2) (s1 : SrcS Γ2 t1 ds) (s2 : SrcS Γ2 t2 ds') (hl : ds.length + ds'.length ≤ sizeLine) : EE X C Γ Ts (.BinOp a .Add b pos) Γ2 (.own (.li (ds ++ ds'))) := ee_op op_cat h1 h2 fun σ vs x y H hA Q q => by
  obtain ⟨p, us, rfl, hp, r1⟩ := hA.pop.srcS s1
  obtain ⟨q', ws, rfl, hq, r2⟩ := hA.srcS s2
  refine ⟨p, q', us, ws, rfl, rfl, hp, hq, by rw [r1.len, r2.len]; exact hl, fun n hn => q _ _ (hA.pop.pop.push (Ext.new hn) (t := .own (.li (ds ++ ds'))) (F := fun x => x = n) ?_ (fun x e => by rw [e]; exact hn) fun x e => by rw [e, upd_same]; trivial)⟩
  show rM _ _ _ _ _
  unfold rM
  exact ⟨n, _, rfl, upd_same, (r1.app r2).tf (Ext.new hn).tf, fun _ => Iff.rfl⟩
theorem ee_catT (h1 : EE X C Γ Ts a Γ1 (.im (.tup ds))) (h2 : EE X C Γ1 (Ts ++ [.im (.tup ds)]) b Γ2 (.im (.tup ds'))) (hl : ds.length + ds'.length ≤ sizeLine) (hK : X.K = C.K := by rfl) : EE X C Γ Ts (.BinOp a .Add b pos) Γ2 (.im (.tup (ds ++ ds'))) := ee_op op_catA h1 h2 (r2s_imN fun x y H rx ry Q q => by
  unfold rD at rx ry
  obtain ⟨p, us, rfl, hp, r1⟩ := rx
  obtain ⟨q', ws, rfl, hq, r2⟩ := ry
  have l1 := r1.len
  have l2 := r2.len
  refine ⟨p, q', us, ws, rfl, rfl, by rw [hK]; exact hp, by rw [hK]; exact hq, by omega, fun e => q _ H Ext.refl ?_, fun _ e => q _ H Ext.refl ?_, fun _ _ n hn => q _ _ (Ext.new hn) ?_⟩
  · subst e
    have : ds = [] := List.length_eq_zero_iff.mp l1.symm
    subst this
    unfold rD
    exact ⟨_, _, rfl, hq, r2⟩
  · subst e
    have : ds' = [] := List.length_eq_zero_iff.mp l2.symm
    subst this
    unfold rD
    exact ⟨_, _, rfl, hp, by rw [List.append_nil]; exact r1⟩
  · unfold rD
    exact ⟨n, _, rfl, SqT.of upd_same, (r1.app r2).tf (Ext.new hn).tf⟩)
theorem ee_extend {nm : Expr} {apos cpos : Pos} (j : Nat) (hn : PE X nm (tVar j)) (hj : Γ[j]? = some (some (.li ds'))) (h1 : EE X C Γ (Ts ++ [.al j]) e Γ1 t) (hj1 : Γ1[j]? = some (some (.li ds))) {es' : List D} (s : SrcS Γ1 t es') (hl : ds.length + es'.length ≤ sizeLine)
    (hbase : attributeBase nm "extend" X.env (eval nm X.env) = eval nm X.env := by rfl)
    (hfew : ((backTo cpos (starEach [e] X.env)).all (fun x => !x.1) && (backToKw cpos (keywordEach [] X.env)).all (fun x => x.1.isSome)
      && decide ([e].length + ([] : List Keyword).length + (if ([] : List Keyword).isEmpty then 0 else 1) < 30)) = true := by rfl)
    (hline : (apos.endLine == cpos.line) = true := by rfl) (hs : starEach [e] X.env = (false, eval e X.env) :: starEach [] X.env := by rfl) (hplain : (backTo cpos (starEach [] X.env)).any (·.1) = false := by rfl) :
    EE X C Γ Ts (.Call (.Attribute nm "extend" apos) [e] [] cpos) (Γ1.set j (some (.li (ds ++ es')))) (.im .non) := by
  refine (pe_bm PySem.F.plainAttrs_list PySem.F.slot_list_extend PySem.F.type_list_extend mt_extend (ee_al (C := C) (Γ := Γ) (Ts := Ts) j hn hj) (ea_cons h1 ea_nil hs) hbase hfew hline hs hplain).wk fun σ H Q ⟨vs, h, q⟩ => ⟨vs, h, fun v H1 h1 => ?_⟩
  obtain ⟨a0, us0, e0, hl0, _⟩ := h1.srcS (.al hj)
  subst e0
  refine ⟨tyV_lst hl0, vs ++ [.ref a0], h1, fun us H2 hlen h2 => ?_⟩
  obtain ⟨u, rfl⟩ : ∃ u, us = [u] := List.length_eq_one_iff.mp hlen
  obtain ⟨a3, us3, e3, hl3, rd3⟩ := h2.srcS s
  subst e3
  have h3 := h2.pop
  obtain ⟨a1, us1, e1, hl1, rd1⟩ := h3.srcS (.al hj1)
  cases e1
  obtain ⟨a2, us2, hσ, hl2, rd2, put⟩ := h3.pop.lset hj1
  have ea : a2 = a0 := by
    obtain ⟨F, ⟨g, _⟩, _⟩ := h3.top
    rw [hσ] at g
    injection g with g; injection g with g; injection g
  subst ea
  rw [hl1] at hl2
  cases hl2
  exact ⟨a2, a3, us1, us3, rfl, rfl, hl1, hl3, by rw [rd1.len, rd3.len]; exact hl, q _ _ ((put _ _ (rd1.app rd3)).pushIm Ext.refl (by unfold rD; rfl))⟩
/-! #### x in a list or tuple of data without depth -/
def D.flat : D → Option V
  | .non => some .non | .bl b => some (.bl b) | .int i => some (.int i) | .str s => some (.str s)
  | _ => none
end

/-! ### a def's body -/
theorem putAll_start : ∀ (ms : List M) (a : Ctx) (n : Nat), ms.length ≤ n → putAll (a ++ List.replicate n none) ((List.range' a.length ms.length).map some) ms = a ++ (ms.map some ++ List.replicate (n - ms.length) none)
  | [], a, n, h => by simp [putAll]
  | m :: ms, a, 0, h => by simp at h
  | m :: ms, a, n + 1, h => by
    have e1 : (List.range' a.length (m :: ms).length).map some = some a.length :: (List.range' (a.length + 1) ms.length).map some := by
      rw [List.length_cons, List.range'_succ, List.map_cons]
    rw [e1]
    unfold putAll
    have e2 : (a ++ List.replicate (n + 1) none).set a.length (some m) = (a ++ [some m]) ++ List.replicate n none := by
      rw [List.set_append_right _ _ (Nat.le_refl _), Nat.sub_self, List.replicate_succ, List.set_cons_zero]
      simp
    rw [e2]
    have ih := putAll_start ms (a ++ [some m]) n (by simp at h; omega)
    rw [List.length_append, List.length_singleton] at ih
    rw [ih]
    simp
theorem rMs.len {K : PySem.W.Frag} {H : Hp} : ∀ {ms : List M} {us : List V} {F : FS}, rMs K ms us H F → us.length = ms.length
  | [], us, F, h => by unfold rMs at h; rw [h.1] <;> rfl
  | m :: ms, us, F, h => by
    unfold rMs at h
    obtain ⟨w, ws, _, _, e, _, s, _⟩ := h
    rw [e, List.length_cons, List.length_cons, s.len]
theorem takeAll {C : Cn} {σ : L2.St} {H : Hp} : ∀ {ios : List Nat} {ms : List M} {Γ : Ctx} {Ts : List T} {vs : List V}, As C Γ Ts σ vs H → ios.Nodup → ms.length = ios.length → (∀ (k i : Nat) (m : M), ios[k]? = some i → ms[k]? = some m → Γ[i]? = some (some m)) →
    ∃ Γ' ts us, As C Γ' (Ts ++ ts) σ (vs ++ us) H ∧ ts.map T.mo = ms.map some ∧ us.length = ts.length ∧ ∀ (k i : Nat), ios[k]? = some i → ∃ u, us[k]? = some u ∧ σ[i]? = some (some u)
  | [], ms, Γ, Ts, vs, h, _, hl, _ => by
    have : ms = [] := List.length_eq_zero_iff.mp hl
    subst this
    exact ⟨Γ, [], [], by simpa using h, rfl, rfl, fun k i e => by simp at e⟩
  | i :: ios, [], Γ, Ts, vs, h, _, hl, _ => by simp at hl
  | i :: ios, m :: ms, Γ, Ts, vs, h, hn, hl, g => by
    obtain ⟨v, hv, h1⟩ := h.take (g 0 i m rfl rfl)
    rw [List.nodup_cons] at hn
    obtain ⟨Γ', ts, us, h2, e1, e2, e3⟩ := takeAll (ios := ios) (ms := ms) h1 hn.2 (by simpa using hl) fun k i' m' a b => by
      have ne : i ≠ i' := fun z => hn.1 (by rw [z]; exact List.mem_of_getElem? a)
      rw [List.getElem?_set_ne ne]
      exact g (k + 1) i' m' (by simpa using a) (by simpa using b)
    refine ⟨Γ', .tk i m :: ts, v :: us, by simpa using h2, by simp [e1, T.mo], by simp [e2], fun k i' a => ?_⟩
    cases k with
    | zero => simp at a; subst a; exact ⟨v, rfl, hv⟩
    | succ k => exact e3 k i' (by simpa using a)
/-- what a def's body has to show: called with ms it ends with r, its changed parameters bearing ms' -/
def Ends1 (X : Cx) (C : Cn) (n : Nat) (N : List Str) (ios : List Nat) (body : List Stmt) (ms : List M) (r : M) (ms' : List M) : Prop :=
  ∃ Γr, SS X C [] (ms.map some ++ List.replicate (N.length - n) none) body (.rt Γr r) ∧ ∀ (k i : Nat) (m : M), ios[k]? = some i → ms'[k]? = some m → Γr[i]? = some (some m)
theorem fn_body {P : Program} {w : World} {K : PySem.W.Frag} {mg : Str → Option Value} {base : Heap} {k n : Nat} {f : Addr} {fd : FuncData} {x qual : Str} {params : Arguments} {body : List Stmt} {sc : Scope} {N ps : List Str} {ios : List Nat} {rel : List M → M → List M → Prop}
    (F : FunD K x qual params body sc [] [] f fd) (S : FnScope N ps sc) (hn : n = ps.length) (hN : n ≤ N.length) (hio : ios.Nodup) (hin : ∀ i ∈ ios, i < n) (hrel : ∀ ms r ms', rel ms r ms' → ms.length = n ∧ ms'.length = ios.length)
    (hb : ∀ (cdv : Value) (A : Around) (outer : List Env) (s : Shared) (H : Hp) (E : XK) (H0 : Hp) (io : FS) (pin : List (Nat × V)) (mio : ∀ a, io a → Mut (H0 a)), (∀ p ∈ pin, p.1 ∈ ios) → Room k (A.deeper (PyProof.Rows.envOfC qual sc s.heap.objs.size f cdv)) → A.guards = some [] →
      ∀ ms r ms', rel ms r ms' → Ends1 (cxOf CX0 P w K mg base N qual sc f cdv A outer s H E).nox ⟨K, H0, io, pin, mio⟩ n N ios body ms r ms') :
    FnG P w K mg base (k + 1) f fd ps (spR K n ios rel) := by
  obtain ⟨oc, od, dV, kV, doc, pm, an, cdv, ct, osl, rfl, lk, hcd, _, _⟩ := F.ex
  refine FnG.of lk hcd S (spR_len hn) fun A outer s H vs Q E hr hg hsp => ?_
  obtain ⟨ms, G, r, ms', hvl, hms, hre, hml, q⟩ := hsp
  obtain ⟨l1, l2⟩ := hrel _ _ _ hre
  have mio : ∀ a, G a → Mut (H a) := fun a ha => rMs.mut hms ha
  let pin : List (Nat × V) := ios.map fun i => (i, vs.getD i .non)
  have hpin : ∀ p ∈ pin, p.1 ∈ ios := fun p hp => by
    obtain ⟨i, hi, rfl⟩ := List.mem_map.mp hp
    exact hi
  obtain ⟨Γr, hs, hΓ⟩ := hb cdv A outer s H E H G pin mio hpin hr hg ms r ms' hre
  refine ⟨_, hs, ?_⟩
  have hst : ∀ i, i < n → (L2.start N vs)[i]? = some (some (vs.getD i .non)) := fun i hi => by
    unfold L2.start
    rw [List.getElem?_append_left (by rw [List.length_map]; omega), List.getElem?_map]
    have : vs[i]? = some vs[i] := List.getElem?_eq_getElem (by omega)
    rw [this, List.getD_eq_getElem?_getD, this] <;> rfl
  have hlen : (L2.start N vs).length = N.length := by
    unfold L2.start
    rw [List.length_append, List.length_map, List.length_replicate]
    omega
  -- at the entry
  have B : AsB ⟨K, H, G, pin, mio⟩ (List.replicate N.length none) [] (L2.start N vs) [] ms vs H (fun _ => e0) G := by
    refine ⟨⟨by simp [hlen], rfl, fun i m e => ?_, fun k t e => by simp at e, fun x y _ => Dj.e0l, fun x a z => z.elim, fun x a z => z.elim, fun a o e _ => e, fun p hp => ?_⟩, hms, fun x => Dj.e0l, fun a ha => .inl ha⟩
    · rw [List.getElem?_replicate] at e
      split at e <;> cases e
    · obtain ⟨i, hi, rfl⟩ := List.mem_map.mp hp
      exact hst i (hin i hi)
  have A0 := B.putAll (js := (List.range' 0 ms.length).map some) fun k j hk => by
    rw [List.getElem?_map] at hk
    cases e : (List.range' 0 ms.length)[k]? with
    | none => rw [e] at hk; cases hk
    | some j' =>
      rw [e] at hk
      cases hk
      have hkl : k < ms.length := by
        have := (List.getElem?_eq_some_iff.mp e).1
        simpa using this
      have e2 : k = j := by
        rw [List.getElem?_range' hkl] at e
        have := Option.some.inj e
        omega
      subst e2
      refine ⟨vs.getD k .non, ?_, hst k (by omega)⟩
      have : vs[k]? = some vs[k] := List.getElem?_eq_getElem (by omega)
      rw [List.getD_eq_getElem?_getD, this] <;> rfl
  have e0' := putAll_start ms [] N.length (by omega)
  rw [List.nil_append] at e0'
  have e0'' : putAll (List.replicate N.length none) ((List.range' 0 ms.length).map some) ms = ms.map some ++ List.replicate (N.length - n) none := by
    have z : ([] : Ctx).length = 0 := rfl
    rw [z] at e0'
    rw [e0', l1]
    rfl
  rw [e0''] at A0
  refine ⟨⟨[], A0⟩, fun σ hs v H' h' => ?_⟩
  -- at the end
  obtain ⟨Γ', ts, us, h2, t1, t2, t3⟩ := takeAll (ios := ios) (ms := ms') h' hio l2 hΓ
  have hs0 : hs = [] := by
    obtain ⟨fp, W⟩ := h'
    have := W.ln
    simp at this
    exact this
  subst hs0
  have h3 : As ⟨K, H, G, pin, mio⟩ Γ' ([] ++ (.own r :: ts)) σ ([] ++ (v :: us)) H' := by simpa using h2
  obtain ⟨fp, G', B', _⟩ := As.blob (ms := r :: ms') (by simp [t1, T.mo]) (by simp [t2]) h3
  have eus : us = ios.map fun i => vs.getD i .non := by
    apply List.ext_getElem?
    intro k
    rw [List.getElem?_map]
    cases e : ios[k]? with
    | none =>
      have lk : ios.length ≤ k := List.getElem?_eq_none_iff.mp e
      have : us.length = ios.length := by
        have z : ts.length = ms'.length := by simpa using congrArg List.length t1
        omega
      rw [List.getElem?_eq_none (by omega)] <;> rfl
    | some i =>
      obtain ⟨u, hu, hσ⟩ := t3 k i e
      have hpm : (i, vs.getD i .non) ∈ pin := List.mem_map.mpr ⟨i, List.mem_of_getElem? e, rfl⟩
      have hσ2 := B'.w.pn _ hpm
      rw [hσ] at hσ2
      rw [hu]
      have z := Option.some.inj (Option.some.inj hσ2)
      rw [z]
      try rfl
  subst eus
  exact q v H' G' B'.r B'.s B'.w.fr
end RL

set_option maxHeartbeats 2000000
/-! RL10: data as the library reads them: ==, repr, isinstance; numbers; calls by names -/
namespace RL
open PySem L2

mutual
/-- a datum as the library tells it -/
def D.p : D → PyData
  | .non => .none
  | .bl b => .bool b
  | .int i => .int i
  | .str s => .str s
  | .tup l => .tuple (ps l)
  | .lst l => .list (ps l)
  | .dct _ => .none
  | .ty _ => .none
def ps : List D → List PyData
  | [] => []
  | d :: l => d.p :: ps l
end
mutual
/-- no dict and no class within, texts of signs alone -/
def D.ok : D → Bool
  | .non => true
  | .bl _ => true
  | .int _ => true
  | .str s => PyData.strOk s
  | .tup l => oks l
  | .lst l => oks l
  | .dct _ => false
  | .ty _ => false
def oks : List D → Bool
  | [] => true
  | d :: l => d.ok && oks l
end
theorem ps_map : ∀ l : List D, ps l = l.map D.p
  | [] => by unfold ps; rfl
  | d :: l => by unfold ps; rw [ps_map l] <;> rfl
theorem oks_all : ∀ l : List D, oks l = l.all D.ok
  | [] => by unfold oks; rfl
  | d :: l => by unfold oks; rw [oks_all l] <;> rfl
mutual
theorem D.ok_lay : ∀ {d : D}, d.ok = true → d.p.canLay0 = true
  | .non, _ => by unfold D.p PyData.canLay0; rfl
  | .bl _, _ => by unfold D.p PyData.canLay0; rfl
  | .int _, _ => by unfold D.p PyData.canLay0; rfl
  | .str s, h => by unfold D.ok at h; unfold D.p PyData.canLay0; exact h
  | .tup l, h => by unfold D.ok at h; unfold D.p PyData.canLay0; exact oks_lay h
  | .lst l, h => by unfold D.ok at h; unfold D.p PyData.canLay0; exact oks_lay h
  | .dct _, h => by unfold D.ok at h; cases h
  | .ty _, h => by unfold D.ok at h; cases h
theorem oks_lay : ∀ {l : List D}, oks l = true → PyData.canLayAll0 (ps l) = true
  | [], _ => by unfold ps PyData.canLayAll0; rfl
  | d :: l, h => by
    unfold oks at h
    rw [Bool.and_eq_true] at h
    unfold ps PyData.canLayAll0
    rw [D.ok_lay h.1, oks_lay h.2] <;> rfl
end
section
variable {X : Cx} {pins : List (Addr × Obj)} {σ : L2.St} {H : Hp} {s : Shared}
mutual
theorem rD.reads (I : Inv X pins σ H s) : ∀ {d : D} {v : V} {u : Value}, d.ok = true → rD X.K d v H → RelV v u → ∃ as, Reads s.heap u d.p as
  | .non, v, u, _, h, r => by unfold rD at h; subst h; cases (show u = Value.none from r); unfold D.p; exact ⟨_, .none⟩
  | .bl b, v, u, _, h, r => by unfold rD at h; subst h; cases (show u = Value.bool b from r); unfold D.p; exact ⟨_, .bool b⟩
  | .int i, v, u, _, h, r => by unfold rD at h; subst h; obtain ⟨t, rfl⟩ := r; unfold D.p; exact ⟨_, .int i t⟩
  | .str x, v, u, _, h, r => by unfold rD at h; subst h; obtain ⟨t, rfl⟩ := r; unfold D.p; exact ⟨_, .str x t⟩
  | .tup l, v, u, k, h, r => by
    unfold rD at h
    unfold D.ok at k
    obtain ⟨a, vs, e, hq, rd⟩ := h
    subst e
    cases (show u = Value.ref a from r)
    obtain ⟨its, rv, ⟨o, ho, hc, n, hd⟩, _⟩ := I.tuple hq
    obtain ⟨as, hr⟩ := rDs.reads I k rd rv
    unfold D.p
    exact ⟨_, .tuple ho hc hd hr⟩
  | .lst l, v, u, k, h, r => by
    unfold rD at h
    unfold D.ok at k
    obtain ⟨a, vs, e, hq, rd⟩ := h
    subst e
    cases (show u = Value.ref a from r)
    obtain ⟨its, rv, ⟨o, n, ho, hc, _, hd⟩, _⟩ := I.list (a := a) (xs := vs) hq.sq
    obtain ⟨as, hr⟩ := rDs.reads I k rd rv
    unfold D.p
    exact ⟨_, .list ho hc hd hr⟩
  | .dct _, v, u, k, h, r => by unfold D.ok at k; cases k
  | .ty _, v, u, k, h, r => by unfold D.ok at k; cases k
theorem rDs.reads (I : Inv X pins σ H s) : ∀ {l : List D} {vs : List V} {us : List Value}, oks l = true → rDs X.K l vs H → Vals vs us → ∃ as, ReadsAll s.heap us (ps l) as
  | [], vs, us, _, h, r => by unfold rDs at h; subst h; cases r; unfold ps; exact ⟨_, .nil⟩
  | d :: l, vs, us, k, h, r => by
    unfold rDs at h
    unfold oks at k
    rw [Bool.and_eq_true] at k
    obtain ⟨w, ws, rfl, h1, h2⟩ := h
    cases r with
    | cons r1 r2 =>
      obtain ⟨as, q1⟩ := rD.reads I k.1 h1 r1
      obtain ⟨bs, q2⟩ := rDs.reads I k.2 h2 r2
      unfold ps
      exact ⟨_, .cons q1 q2⟩
end
theorem lst_reads (I : Inv X pins σ H s) {a : Addr} {vs : List V} {l : List D} (hl : SqL X.K H a vs) (k : oks l = true) (rd : rDs X.K l vs H) : ∃ as, Reads s.heap (.ref a) (.list (ps l)) as := by
  obtain ⟨its, rv, ⟨o, n, ho, hc, _, hd⟩, _⟩ := I.list hl
  obtain ⟨as, hr⟩ := rDs.reads I k rd rv
  exact ⟨_, .list ho hc hd hr⟩
end
/-- x bears p as data: a datum, or a list of data -/
inductive Bears (K : PySem.W.Frag) (H : Hp) : V → PyData → Prop where
  | d {d : D} {v : V} (k : d.ok = true) (h : rD K d v H) : Bears K H v d.p
  | l {l : List D} {a : Addr} {vs : List V} (k : oks l = true) (hl : SqL K H a vs) (h : rDs K l vs H) : Bears K H (.ref a) (.list (ps l))
def rEqB (K : PySem.W.Frag) : R2 := fun x y H Q => ∃ d e, Bears K H x d ∧ Bears K H y e ∧ d.canLay0 = true ∧ e.canLay0 = true ∧ min d.depth e.depth ≤ 64 ∧ Q (.bl (PyData.eqv d e)) H
def rNeB (K : PySem.W.Frag) : R2 := fun x y H Q => ∃ d e, Bears K H x d ∧ Bears K H y e ∧ d.canLay0 = true ∧ e.canLay0 = true ∧ min d.depth e.depth ≤ 64 ∧ Q (.bl (!PyData.eqv d e)) H
section
variable {X : Cx}
theorem Bears.reads {pins : List (Addr × Obj)} {σ : L2.St} {H : Hp} {s : Shared} (I : Inv X pins σ H s) {v : V} {u : Value} {p : PyData} (b : Bears X.K H v p) (r : RelV v u) : ∃ as, Reads s.heap u p as := by
  cases b with
  | d k h => exact h.reads I k r
  | l k hl h =>
    cases (show u = Value.ref _ from r)
    exact lst_reads I hl k h
theorem op_eqB (hu : X.A.units + 64 < cLine) : OpR X (compareOp .Eq) (rEqB X.K) := by
  rintro pins s σ H x y v u Q I rx ry ⟨d, e, b1, b2, l1, l2, hd, q⟩
  obtain ⟨as, r1⟩ := b1.reads I rx
  obtain ⟨bs, r2⟩ := b2.reads I ry
  exact SeqAt.compareEq_reads r1 r2 l1 l2 (by omega) ⟨.bl _, H, I, rfl, q⟩
theorem op_neB (hu : X.A.units + 64 < cLine) : OpR X (compareOp .NotEq) (rNeB X.K) := by
  rintro pins s σ H x y v u Q I rx ry ⟨d, e, b1, b2, l1, l2, hd, q⟩
  obtain ⟨as, r1⟩ := b1.reads I rx
  obtain ⟨bs, r2⟩ := b2.reads I ry
  exact SeqAt.compareNe_reads r1 r2 l1 l2 (by omega) ⟨.bl _, H, I, rfl, q⟩
/-- repr of data -/
def rRepr (K : PySem.W.Frag) : List V → Hp → VK → Prop := fun xs H Q => ∃ v p, xs = [v] ∧ Bears K H v p ∧ p.showable = true ∧ p.hasDict = false ∧ p.depth ≤ 60 ∧ p.shown.length ≤ sizeLine ∧ Q (.str p.shown) H
theorem call_repr (hg : X.A.guards = some []) (hu : X.A.units + 64 < cLine) : CallR X (.builtin "repr") (rRepr X.K) := by
  rintro pins s σ H xs us Q I r ⟨v, p, rfl, b, hs, hd, hp, hz, q⟩
  obtain ⟨u, rfl, ru⟩ := Vals.one r
  obtain ⟨as, rs⟩ := b.reads I ru
  have hsm := PyData.noDict_hsm (as := as) hd
  cases rs with
  | none => exact PySem.P.repr_of_none ⟨.str _, H, I.tok _, ⟨_, rfl⟩, by unfold PyData.shown at q; exact q⟩
  | bool b => exact PySem.P.repr_of_bool ⟨.str _, H, I.tok _, ⟨_, rfl⟩, by unfold PyData.shown at q; exact q⟩
  | int i t =>
    have hs' : i.natAbs.log2 < 1920 := by unfold PyData.showable at hs; exact of_decide_eq_true hs
    exact PySem.P.repr_of_int hs' ⟨.str _, H, I.tok _, ⟨_, rfl⟩, by unfold PyData.shown at q; exact q⟩
  | str x t => exact PySem.P.repr_of_str ⟨.str _, H, I.tok _, ⟨_, rfl⟩, by unfold PyData.shown at q; exact q⟩ (by unfold PyData.shown at hz; exact hz)
  | list h1 h2 h3 h4 => exact repr_of_reads' (.list h1 h2 h3 h4) hs hsm hg (by omega) (fun _ _ e => e) (fun h' u tk hk => ⟨.str _, H, I.kept (t' := tk) hk, ⟨_, rfl⟩, q⟩) hz
  | tuple h1 h2 h3 h4 => exact repr_of_reads' (.tuple h1 h2 h3 h4) hs hsm hg (by omega) (fun _ _ e => e) (fun h' u tk hk => ⟨.str _, H, I.kept (t' := tk) hk, ⟨_, rfl⟩, q⟩) hz
  | dict h1 h2 h3 h4 h5 => unfold PyData.hasDict at hd; cases hd
end

/-! ### over the state -/
section
variable {X : Cx} {C : Cn} {Γ Γ1 Γ2 Γ3 Γ' : Ctx} {Ts Hs : List T} {t t1 t2 t3 : T} {ts : List T} {e a b c : Expr} {es rest : List Expr} {pos p nm : Pos} {i j : Nat} {d d1 d2 d3 : D} {ds ds' : List D} {m : M} {b1 b2 k : Bool}
/-- what lies there bears data -/
inductive BT (Γ : Ctx) : T → PyData → Prop where
  | im {d : D} (k : d.ok = true) : BT Γ (.im d) d.p
  | src {t : T} {l : List D} (s : Src Γ t l) (k : oks l = true) : BT Γ t (.list (ps l))
theorem As.bears {σ : L2.St} {vs : List V} {v : V} {H : Hp} {q : PyData} (h : As C Γ (Ts ++ [t]) σ (vs ++ [v]) H) (b : BT Γ t q) : Bears C.K H v q := by
  cases b with
  | im k => exact .d k h.topIm
  | src s k =>
    obtain ⟨a, us, e, hl, rd⟩ := h.src s
    subst e
    exact .l k hl rd
theorem BT.lay {q : PyData} (b : BT Γ t q) : q.canLay0 = true := by
  cases b with
  | im k => exact D.ok_lay k
  | src s k => unfold PyData.canLay0; exact oks_lay k
theorem et_eqB {q1 q2 : PyData} (hu : X.A.units + 64 < cLine) (h1 : EE X C Γ Ts a Γ1 t1) (h2 : EE X C Γ1 (Ts ++ [t1]) b Γ2 t2) (k1 : BT Γ2 t1 q1) (k2 : BT Γ2 t2 q2) (hd : min q1.depth q2.depth ≤ 64) (hk : PyData.eqv q1 q2 = k) (hK : X.K = C.K := by rfl) : ET X C Γ Ts (.Compare a [.Eq] [b] pos) Γ2 k :=
  et_cmp (op_eqB hu) (nomark _) h1 h2 fun σ vs x y H hA Q q => ⟨q1, q2, by rw [hK]; exact hA.pop.bears k1, by rw [hK]; exact hA.bears k2, k1.lay, k2.lay, hd, q _ H (hA.pop.pop.pushIm Ext.refl (by unfold rD; rw [hk]))⟩
theorem et_neB {q1 q2 : PyData} (hu : X.A.units + 64 < cLine) (h1 : EE X C Γ Ts a Γ1 t1) (h2 : EE X C Γ1 (Ts ++ [t1]) b Γ2 t2) (k1 : BT Γ2 t1 q1) (k2 : BT Γ2 t2 q2) (hd : min q1.depth q2.depth ≤ 64) (hk : (!PyData.eqv q1 q2) = k) (hK : X.K = C.K := by rfl) : ET X C Γ Ts (.Compare a [.NotEq] [b] pos) Γ2 k :=
  et_cmp (op_neB hu) (nomark _) h1 h2 fun σ vs x y H hA Q q => ⟨q1, q2, by rw [hK]; exact hA.pop.bears k1, by rw [hK]; exact hA.bears k2, k1.lay, k2.lay, hd, q _ H (hA.pop.pop.pushIm Ext.refl (by unfold rD; rw [hk]))⟩
theorem eqv_nil (l : List D) : PyData.eqv (.list (ps l)) (.list (ps [])) = l.isEmpty := by
  cases l with
  | nil => unfold ps PyData.eqv PyData.eqvAll; rfl
  | cons d l => unfold ps PyData.eqv PyData.eqvAll; rfl
theorem dep_nil (q : PyData) : min q.depth (PyData.list (ps [])).depth ≤ 64 := by
  have : (PyData.list (ps [])).depth = 1 := by unfold ps PyData.depth PyData.depthAll; rfl
  rw [this]
  omega
/-- x == [], x != [] -/
theorem et_eqNil (hu : X.A.units + 64 < cLine) (h1 : EE X C Γ Ts a Γ1 t1) (s : Src Γ1 t1 ds) (ho : oks ds = true) {q : Pos} (hK : X.K = C.K := by rfl) : ET X C Γ Ts (.Compare a [.Eq] [.List [] q] pos) Γ1 ds.isEmpty :=
  et_eqB hu h1 (ee_lst (ds := []) ea_nil (by decide)) (.src s ho) (.src .own (by unfold oks; rfl)) (dep_nil _) (eqv_nil ds) hK
theorem et_neNil (hu : X.A.units + 64 < cLine) (h1 : EE X C Γ Ts a Γ1 t1) (s : Src Γ1 t1 ds) (ho : oks ds = true) {q : Pos} (hK : X.K = C.K := by rfl) : ET X C Γ Ts (.Compare a [.NotEq] [.List [] q] pos) Γ1 (!ds.isEmpty) :=
  et_neB hu h1 (ee_lst (ds := []) ea_nil (by decide)) (.src s ho) (.src .own (by unfold oks; rfl)) (dep_nil _) (congrArg not (eqv_nil ds)) hK
/-- what repr can show -/
def shows (q : PyData) : Bool := q.showable && !q.hasDict && decide (q.depth ≤ 60) && decide (q.shown.length ≤ sizeLine)
theorem ee_repr {q : PyData} (hG : X.A.guards = some []) (hu : X.A.units + 64 < cLine) (hm : X.mg "repr" = none) (h : EE X C Γ Ts e Γ1 t) (k : BT Γ1 t q) (hs : shows q = true) (hg : Gl X "repr" := by rfl) (hK : X.K = C.K := by rfl) (he : starEach [e] X.env = (false, eval e X.env) :: starEach [] X.env := by rfl) (hpl : (backTo pos (starEach [] X.env)).any (·.1) = false := by rfl) : EE X C Γ Ts (.Call (.Name "repr" nm) [e] [] pos) Γ1 (.im (.str q.shown)) :=
  cb_wk (ts := [t]) (fun σ vs us H hl h Q qq => by
    obtain ⟨u, rfl⟩ : ∃ u, us = [u] := List.length_eq_one_iff.mp hl
    unfold shows at hs
    simp only [Bool.and_eq_true, decide_eq_true_eq, Bool.not_eq_true'] at hs
    exact ⟨u, q, rfl, by rw [hK]; exact h.bears k, hs.1.1.1, hs.1.1.2, hs.1.2, hs.2, qq _ H (h.pop.pushIm Ext.refl (by unfold rD; rfl))⟩) (pe_callB (call_repr hG hu) hg hm (by decide +kernel) (ea_cons h ea_nil he) (by decide) (by decide) he hpl)
/-! #### numbers -/
theorem ee_abs {n : Int} (hm : X.mg "abs" = none) (h : EE X C Γ Ts e Γ1 (.im (.int n))) (hg : Gl X "abs" := by rfl) (he : starEach [e] X.env = (false, eval e X.env) :: starEach [] X.env := by rfl) (hpl : (backTo pos (starEach [] X.env)).any (·.1) = false := by rfl) : EE X C Γ Ts (.Call (.Name "abs" nm) [e] [] pos) Γ1 (.im (.int (if n < 0 then -n else n))) :=
  cb_wk (cls_1 fun x H hx Q q => by
    unfold rD at hx
    subst hx
    exact ⟨n, rfl, q _ (by unfold rD; rfl)⟩) (pe_callB call_abs hg hm (by decide +kernel) (ea_cons h ea_nil he) (by decide) (by decide) he hpl)
theorem ee_intI {n : Int} (hm : X.mg "int" = none) (h : EE X C Γ Ts e Γ1 (.im (.int n))) (hg : Gl X "int" := by rfl) (he : starEach [e] X.env = (false, eval e X.env) :: starEach [] X.env := by rfl) (hpl : (backTo pos (starEach [] X.env)).any (·.1) = false := by rfl) : EE X C Γ Ts (.Call (.Name "int" nm) [e] [] pos) Γ1 (.im (.int n)) :=
  cb_wk (cls_1 fun x H hx Q q => by
    unfold rD at hx
    subst hx
    exact .inl ⟨n, rfl, q _ (by unfold rD; rfl)⟩) (pe_callTy call_int1 hg hm (by decide +kernel) (ea_cons h ea_nil he) (by decide) (by decide) he hpl)
theorem ee_intB (hm : X.mg "int" = none) (h : EE X C Γ Ts e Γ1 (.im (.bl k))) (hg : Gl X "int" := by rfl) (he : starEach [e] X.env = (false, eval e X.env) :: starEach [] X.env := by rfl) (hpl : (backTo pos (starEach [] X.env)).any (·.1) = false := by rfl) : EE X C Γ Ts (.Call (.Name "int" nm) [e] [] pos) Γ1 (.im (.int (if k then 1 else 0))) :=
  cb_wk (cls_1 fun x H hx Q q => by
    unfold rD at hx
    subst hx
    exact .inr ⟨k, rfl, q _ (by unfold rD; rfl)⟩) (pe_callTy call_int1 hg hm (by decide +kernel) (ea_cons h ea_nil he) (by decide) (by decide) he hpl)
/-! #### isinstance -/
def D.tyn : D → String
  | .non => "NoneType" | .bl _ => "bool" | .int _ => "int" | .str _ => "str" | .tup _ => "tuple" | .lst _ => "list" | .dct _ => "dict" | .ty _ => "type"
theorem rD.tyx {K : PySem.W.Frag} {H : Hp} {v : V} (h : rD K d v H) (hn : ∀ n, d ≠ .ty n) : TyX K H v (.type d.tyn) := by
  cases d with
  | non => unfold rD at h; subst h; exact .base .non
  | bl b => unfold rD at h; subst h; exact .base (.bl b)
  | int i => unfold rD at h; subst h; exact .base (.int i)
  | str s => unfold rD at h; subst h; exact .base (.str s)
  | tup l =>
    unfold rD at h
    obtain ⟨a, us, e, hq, _⟩ := h
    subst e
    rcases hq with (h1 | ⟨o, h1⟩) | ⟨o, its, n, h1, h2, _⟩
    · exact .base (.tup h1)
    · exact .fTuple h1
    · exact .kTuple h1 h2
  | lst l =>
    unfold rD at h
    obtain ⟨a, us, e, hq, _⟩ := h
    subst e
    rcases hq with ⟨o, h1⟩ | ⟨o, its, n, h1, h2, _⟩
    · exact .base (.frz h1)
    · exact .kList h1 h2
  | dct l =>
    unfold rD at h
    obtain ⟨a, o, us, e, hq, _⟩ := h
    subst e
    exact .fDict hq
  | ty n => exact absurd rfl (hn n)
theorem ee_ty {x : Str} {n : String} (hm : X.mg x = none) (hv : bootBuiltins x = some (.type n)) (hg : Gl X x := by rfl) (hn : x ≠ "__name__" := by decide) (hd : (x == ("__debug__" : Str)) = false := by decide) : EE X C Γ Ts (.Name x pos) Γ (.im (.ty n)) :=
  ee_cst (v := .ty n) (pe_bltn hg hm hv rfl hn hd) fun H => by unfold rD; rfl
theorem ee_isi {n : String} (hm : X.mg "isinstance" = none) (h : EE X C Γ Ts a Γ1 (.im d)) (h2 : EE X C Γ1 (Ts ++ [.im d]) b Γ2 (.im (.ty n))) (hk : kitB d.tyn n = some k) (hd : ∀ n, d ≠ .ty n) (hg : Gl X "isinstance" := by rfl) (hK : X.K = C.K := by rfl) (he : starEach [a, b] X.env = (false, eval a X.env) :: starEach [b] X.env := by rfl) (heb : starEach [b] X.env = (false, eval b X.env) :: starEach [] X.env := by rfl) (hpl : (backTo pos (starEach [b] X.env)).any (·.1) = false := by rfl) :
    EE X C Γ Ts (.Call (.Name "isinstance" nm) [a, b] [] pos) Γ2 (.im (.bl k)) :=
  cb_wk (cls_2 (d1 := d) (d2 := .ty n) fun x y H hx hy Q q => by
    unfold rD at hy
    subst hy
    exact ⟨x, .ty n, .type d.tyn, .type n, k, rfl, .ty n, by rw [hK]; exact hx.tyx hd, kit_ty hk, q _ (by unfold rD; rfl)⟩) (pe_callB call_isi hg hm (by decide +kernel) (ea_cons h (ea_cons h2 ea_nil heb) he) (by decide) (by decide) he hpl)
end
def D.is_tuple : D → Bool
  | .tup _ => true
  | _ => false
theorem kit_tuple : ∀ {d : D}, (∀ n, d ≠ .ty n) → kitB d.tyn "tuple" = some d.is_tuple
  | .non, _ => (by decide +kernel : kitB "NoneType" "tuple" = some false)
  | .bl _, _ => (by decide +kernel : kitB "bool" "tuple" = some false)
  | .int _, _ => (by decide +kernel : kitB "int" "tuple" = some false)
  | .str _, _ => (by decide +kernel : kitB "str" "tuple" = some false)
  | .tup _, _ => (by decide +kernel : kitB "tuple" "tuple" = some true)
  | .lst _, _ => (by decide +kernel : kitB "list" "tuple" = some false)
  | .dct _, _ => (by decide +kernel : kitB "dict" "tuple" = some false)
  | .ty n, h => absurd rfl (h n)
def D.is_bool : D → Bool
  | .bl _ => true
  | _ => false
theorem kit_bool : ∀ {d : D}, (∀ n, d ≠ .ty n) → kitB d.tyn "bool" = some d.is_bool
  | .non, _ => (by decide +kernel : kitB "NoneType" "bool" = some false)
  | .bl _, _ => (by decide +kernel : kitB "bool" "bool" = some true)
  | .int _, _ => (by decide +kernel : kitB "int" "bool" = some false)
  | .str _, _ => (by decide +kernel : kitB "str" "bool" = some false)
  | .tup _, _ => (by decide +kernel : kitB "tuple" "bool" = some false)
  | .lst _, _ => (by decide +kernel : kitB "list" "bool" = some false)
  | .dct _, _ => (by decide +kernel : kitB "dict" "bool" = some false)
  | .ty n, h => absurd rfl (h n)
def D.is_int : D → Bool
  | .int _ => true
  | .bl _ => true
  | _ => false
theorem kit_int : ∀ {d : D}, (∀ n, d ≠ .ty n) → kitB d.tyn "int" = some d.is_int
  | .non, _ => (by decide +kernel : kitB "NoneType" "int" = some false)
  | .bl _, _ => (by decide +kernel : kitB "bool" "int" = some true)
  | .int _, _ => (by decide +kernel : kitB "int" "int" = some true)
  | .str _, _ => (by decide +kernel : kitB "str" "int" = some false)
  | .tup _, _ => (by decide +kernel : kitB "tuple" "int" = some false)
  | .lst _, _ => (by decide +kernel : kitB "list" "int" = some false)
  | .dct _, _ => (by decide +kernel : kitB "dict" "int" = some false)
  | .ty n, h => absurd rfl (h n)
def D.is_str : D → Bool
  | .str _ => true
  | _ => false
theorem kit_str : ∀ {d : D}, (∀ n, d ≠ .ty n) → kitB d.tyn "str" = some d.is_str
  | .non, _ => (by decide +kernel : kitB "NoneType" "str" = some false)
  | .bl _, _ => (by decide +kernel : kitB "bool" "str" = some false)
  | .int _, _ => (by decide +kernel : kitB "int" "str" = some false)
  | .str _, _ => (by decide +kernel : kitB "str" "str" = some true)
  | .tup _, _ => (by decide +kernel : kitB "tuple" "str" = some false)
  | .lst _, _ => (by decide +kernel : kitB "list" "str" = some false)
  | .dct _, _ => (by decide +kernel : kitB "dict" "str" = some false)
  | .ty n, h => absurd rfl (h n)
def D.is_list : D → Bool
  | .lst _ => true
  | _ => false
theorem kit_list : ∀ {d : D}, (∀ n, d ≠ .ty n) → kitB d.tyn "list" = some d.is_list
  | .non, _ => (by decide +kernel : kitB "NoneType" "list" = some false)
  | .bl _, _ => (by decide +kernel : kitB "bool" "list" = some false)
  | .int _, _ => (by decide +kernel : kitB "int" "list" = some false)
  | .str _, _ => (by decide +kernel : kitB "str" "list" = some false)
  | .tup _, _ => (by decide +kernel : kitB "tuple" "list" = some false)
  | .lst _, _ => (by decide +kernel : kitB "list" "list" = some true)
  | .dct _, _ => (by decide +kernel : kitB "dict" "list" = some false)
  | .ty n, h => absurd rfl (h n)
def D.is_dict : D → Bool
  | .dct _ => true
  | _ => false
theorem kit_dict : ∀ {d : D}, (∀ n, d ≠ .ty n) → kitB d.tyn "dict" = some d.is_dict
  | .non, _ => (by decide +kernel : kitB "NoneType" "dict" = some false)
  | .bl _, _ => (by decide +kernel : kitB "bool" "dict" = some false)
  | .int _, _ => (by decide +kernel : kitB "int" "dict" = some false)
  | .str _, _ => (by decide +kernel : kitB "str" "dict" = some false)
  | .tup _, _ => (by decide +kernel : kitB "tuple" "dict" = some false)
  | .lst _, _ => (by decide +kernel : kitB "list" "dict" = some false)
  | .dct _, _ => (by decide +kernel : kitB "dict" "dict" = some true)
  | .ty n, h => absurd rfl (h n)
end RL

set_option maxHeartbeats 2000000
/-! RL11: in, calls by names, more walks, the law's own end -/
namespace RL
open PySem L2

/-! ### comprehensions without a state -/
theorem lcM_map {S α β : Type} (g : α → β) (s : S) : ∀ xs : List α, lcM (fun (s : S) x => some (s, some (g x))) s xs = some (s, xs.map g)
  | [] => rfl
  | x :: xs => by
    show (lcM _ s xs).bind _ = _
    rw [lcM_map g s xs] <;> rfl
theorem lcM_filter {S α β : Type} (t : α → Bool) (g : α → β) (s : S) : ∀ xs : List α, lcM (fun (s : S) x => some (s, if t x = true then some (g x) else none)) s xs = some (s, (xs.filter t).map g)
  | [] => rfl
  | x :: xs => by
    show (lcM _ s xs).bind _ = _
    rw [lcM_filter t g s xs]
    cases h : t x with
    | true => simp [h]
    | false => simp [h]

section
variable {X : Cx} {C : Cn} {Γ Γ1 Γ2 Γ3 Γ' : Ctx} {Ts Hs : List T} {t t1 t2 t3 : T} {ts : List T} {e a b c tg iter : Expr} {es rest : List Expr} {kws : List Keyword} {pos p nm kp : Pos} {i j : Nat} {d d1 d2 d3 r : D} {ds ds' ds1 ds2 : List D} {m rm : M} {b1 b2 k : Bool}
/-! ### in -/
theorem rDs_ints {K : PySem.W.Frag} {H : Hp} : ∀ {xs : List Int} {us : List V}, rDs K (xs.map D.int) us H → us = xs.map V.int
  | [], us, h => by have h : rDs K [] us H := h; unfold rDs at h; rw [h] <;> rfl
  | x :: xs, us, h => by
    have h : rDs K (D.int x :: xs.map D.int) us H := h
    unfold rDs at h
    obtain ⟨w, ws, rfl, r, s⟩ := h
    unfold rD at r
    rw [r, rDs_ints s] <;> rfl
theorem rDs_strs {K : PySem.W.Frag} {H : Hp} : ∀ {xs : List Str} {us : List V}, rDs K (xs.map D.str) us H → us = xs.map V.str
  | [], us, h => by have h : rDs K [] us H := h; unfold rDs at h; rw [h] <;> rfl
  | x :: xs, us, h => by
    have h : rDs K (D.str x :: xs.map D.str) us H := h
    unfold rDs at h
    obtain ⟨w, ws, rfl, r, s⟩ := h
    unfold rD at r
    rw [r, rDs_strs s] <;> rfl
theorem inV_ints (x : Int) (xs : List Int) : inV (.int x) (xs.map V.int) = decide (x ∈ xs) := by
  unfold inV
  induction xs with
  | nil => rfl
  | cons y ys ih =>
    rw [List.map_cons, List.any_cons, ih]
    show ((y == x) || _) = _
    by_cases e : y = x
    · subst e; simp
    · have e' : ¬ x = y := fun z => e z.symm
      simp [e, e']
theorem inV_strs (x : Str) (xs : List Str) : inV (.str x) (xs.map V.str) = decide (x ∈ xs) := by
  unfold inV
  induction xs with
  | nil => rfl
  | cons y ys ih =>
    rw [List.map_cons, List.any_cons, ih]
    show ((y == x) || _) = _
    by_cases e : y = x
    · subst e; simp
    · have e' : ¬ x = y := fun z => e z.symm
      have e2 : (y == x) = false := by rw [beq_eq_false_iff_ne]; exact e
      rw [e2]
      simp [e']
theorem flat_ints (xs : List Int) : (xs.map V.int).all flatV = true := by simp [List.all_map]; intro x _; rfl
theorem flat_strs (xs : List Str) : (xs.map V.str).all flatV = true := by simp [List.all_map]; intro x _; rfl
/-- the data of a list or of a tuple -/
inductive SrcQ (Γ : Ctx) : T → List D → Prop where
  | l {t : T} {ds : List D} (s : Src Γ t ds) : SrcQ Γ t ds
  | t {ds : List D} : SrcQ Γ (.im (.tup ds)) ds
theorem As.srcQ {σ : L2.St} {vs : List V} {v : V} {H : Hp} (h : As C Γ (Ts ++ [t]) σ (vs ++ [v]) H) (s : SrcQ Γ t ds) : ∃ a us, v = .ref a ∧ (SqL C.K H a us ∨ SqT C.K H a us) ∧ rDs C.K ds us H := by
  cases s with
  | l s =>
    obtain ⟨a, us, e, hl, rd⟩ := h.src s
    exact ⟨a, us, e, .inl hl, rd⟩
  | t =>
    have r := h.topIm
    unfold rD at r
    obtain ⟨a, us, e, hl, rd⟩ := r
    exact ⟨a, us, e, .inr hl, rd⟩
theorem r2s_inI {x : Int} {xs : List Int} {neg : Bool} (s : SrcQ Γ t (xs.map .int)) (hK : X.K = C.K) : R2S C Γ Ts (.im (.int x)) t (rIn X.K neg) Γ (.im (.bl (if neg then !decide (x ∈ xs) else decide (x ∈ xs)))) := fun σ vs u y H hA Q q => by
  obtain ⟨a, us, rfl, hq, rd⟩ := hA.srcQ s
  have ex := hA.pop.topIm
  unfold rD at ex
  subst ex
  rw [rDs_ints rd] at hq
  refine ⟨a, _, rfl, by rw [hK]; exact hq, rfl, flat_ints xs, q _ H (hA.pop.pop.pushIm Ext.refl ?_)⟩
  unfold rD
  rw [inV_ints]
theorem r2s_inS {x : Str} {xs : List Str} {neg : Bool} (s : SrcQ Γ t (xs.map .str)) (hK : X.K = C.K) : R2S C Γ Ts (.im (.str x)) t (rIn X.K neg) Γ (.im (.bl (if neg then !decide (x ∈ xs) else decide (x ∈ xs)))) := fun σ vs u y H hA Q q => by
  obtain ⟨a, us, rfl, hq, rd⟩ := hA.srcQ s
  have ex := hA.pop.topIm
  unfold rD at ex
  subst ex
  rw [rDs_strs rd] at hq
  refine ⟨a, _, rfl, by rw [hK]; exact hq, rfl, flat_strs xs, q _ H (hA.pop.pop.pushIm Ext.refl ?_)⟩
  unfold rD
  rw [inV_strs]
theorem et_inI {x : Int} {xs : List Int} (h1 : EE X C Γ Ts a Γ1 (.im (.int x))) (h2 : EE X C Γ1 (Ts ++ [.im (.int x)]) b Γ2 t) (s : SrcQ Γ2 t (xs.map .int)) (hm : behindInMarks .In b = false := by rfl) (hK : X.K = C.K := by rfl) : ET X C Γ Ts (.Compare a [.In] [b] pos) Γ2 (decide (x ∈ xs)) := et_cmp op_in_seq hm h1 h2 (r2s_inI s hK)
theorem et_ninI {x : Int} {xs : List Int} (h1 : EE X C Γ Ts a Γ1 (.im (.int x))) (h2 : EE X C Γ1 (Ts ++ [.im (.int x)]) b Γ2 t) (s : SrcQ Γ2 t (xs.map .int)) (hm : behindInMarks .NotIn b = false := by rfl) (hK : X.K = C.K := by rfl) : ET X C Γ Ts (.Compare a [.NotIn] [b] pos) Γ2 (!decide (x ∈ xs)) := et_cmp op_notIn_seq hm h1 h2 (r2s_inI s hK)
theorem et_inS {x : Str} {xs : List Str} (h1 : EE X C Γ Ts a Γ1 (.im (.str x))) (h2 : EE X C Γ1 (Ts ++ [.im (.str x)]) b Γ2 t) (s : SrcQ Γ2 t (xs.map .str)) (hm : behindInMarks .In b = false := by rfl) (hK : X.K = C.K := by rfl) : ET X C Γ Ts (.Compare a [.In] [b] pos) Γ2 (decide (x ∈ xs)) := et_cmp op_in_seq hm h1 h2 (r2s_inS s hK)
theorem et_ninS {x : Str} {xs : List Str} (h1 : EE X C Γ Ts a Γ1 (.im (.str x))) (h2 : EE X C Γ1 (Ts ++ [.im (.str x)]) b Γ2 t) (s : SrcQ Γ2 t (xs.map .str)) (hm : behindInMarks .NotIn b = false := by rfl) (hK : X.K = C.K := by rfl) : ET X C Γ Ts (.Compare a [.NotIn] [b] pos) Γ2 (!decide (x ∈ xs)) := et_cmp op_notIn_seq hm h1 h2 (r2s_inS s hK)
/-! ### a list that never changes is walked -/
theorem it_lstF (h : EE X C Γ Hs iter Γ1 (.im (.lst ds))) (hK : X.K = C.K := by rfl) : IT X C Hs tg iter Γ Γ1 (fun v => .hid (.im (.lst ds)) v) (fun _ => True) ds := (pi_list h).wk fun σ H R ⟨hs, h0, q⟩ => ⟨hs, h0, fun v H1 h1 => by
  obtain ⟨a, us, e, hl, rd⟩ := h1.src .fz
  subst e
  refine ⟨a, rfl, ⟨us, by rw [hK]; exact hl⟩, q (.ref a) _ H1 h1.hide ⟨_, _, (by rw [hK]; exact walk_lst), ?_, ?_⟩⟩
  · intro Γ' σ' hs' H' _ hA
    obtain ⟨F, ⟨_, r⟩, _⟩ := hA.top
    unfold rM at r
    have r := r.1
    unfold rD at r
    obtain ⟨a', us', e', hl', rd'⟩ := r
    cases e'
    exact ⟨us', hl'.sq, rd'⟩
  · rintro i H' x H'' hi _ ⟨e1, d, hd, rd⟩
    subst e1
    exact ⟨Ext.refl, d, hd, rd⟩⟩
/-! ### calls by names, of data alone -/
abbrev EKw (X : Cx) (C : Cn) (Γ : Ctx) (Ts : List T) (es : List Keyword) (Γ' : Ctx) (ts : List T) : Prop := PK X es (ar C Γ Ts Γ' ts)
theorem _root_.L2.PK.wk {X : Cx} {e : List Keyword} {t t' : TA} (h : PK X e t) (w : ∀ σ H Q, t' σ H Q → t σ H Q) : PK X e t' := ⟨fun pos pins s σ H Q I q => h.run pos pins s σ H Q I (w _ _ _ q)⟩
theorem ek_nil : EKw X C Γ Ts [] Γ [] := pk_nil.wk fun σ H Q ⟨vs, h, q⟩ => q [] H rfl (by simpa using h)
theorem ek_cons {nmk : Option Str} (h1 : EE X C Γ Ts e Γ1 t) (h2 : EKw X C Γ1 (Ts ++ [t]) kws Γ2 ts) : EKw X C Γ Ts (⟨nmk, e, kp⟩ :: kws) Γ2 (t :: ts) := (pk_cons h1 h2).wk fun σ H Q ⟨vs, h, q⟩ =>
  ⟨vs, h, fun v H1 h1 => ⟨vs ++ [v], h1, fun us H2 hl h2 => q (v :: us) H2 (by simp [hl]) (by simpa using h2)⟩⟩
theorem spR_im {n : Nat} {rel : List M → M → List M → Prop} {σ : L2.St} {vs us : List V} {H : Hp} {Q : VK} (hK : X.K = C.K) (hn : ds.length = n) (rd : rDs C.K ds us H) (hrel : rel (ds.map M.im) rm []) (h : As C Γ Ts σ vs H) (q : ∀ v H', As C Γ (Ts ++ [.own rm]) σ (vs ++ [v]) H' → Q v H') : spR X.K n [] rel us H Q E0 := by
  rw [hK]
  refine ⟨ds.map .im, e0, rm, [], by rw [rd.len]; exact hn, rMs.im rd (fun _ z => z), hrel, rfl, fun v H' F' h1 h2 h3 => q v H' ?_⟩
  have ex : Ext H H' := fun a o z => h3 a o z fun z => z
  unfold rMs at h1
  obtain ⟨w, ws, F1, F2, e, r1, r2, _, hF⟩ := h1
  cases e
  refine h.push ex (t := .own rm) (F := F1) r1 (fun a ha => ?_) fun a ha => rM.mut r1 ha
  rcases h2 a ((hF a).2 (.inl ha)) with z | z
  · exact z.elim
  · exact z
theorem ee_callK0 {k n : Nat} {f : Addr} {fd : FuncData} {ps ks : List Str} {x : Str} {gV : List V → List V → List V} {g : List Value → List Value → List Value} {rel : List M → M → List M → Prop}
    (F : FnG X.prog X.w X.K X.mg X.base k f fd ps (spR X.K n [] rel)) (hr : Room k X.A) (hG : X.A.guards = some []) (hm : X.mg x = some (.ref f)) (hk : PySem.W.keepIn X.K (.ref f) = true) (hb : KBinds X.K fd ps ks g gV)
    (h : EKw X C Γ Ts kws Γ1 (ds2.map T.im)) (hg2 : ∀ zs H, rDs C.K ds2 zs H → rDs C.K ds (gV [] zs) H) (hn : ds.length = n) (hrel : rel (ds.map M.im) rm []) (hg : Gl X x := by rfl) (hK : X.K = C.K := by rfl) (hall : (backToKw pos (keywordEach kws X.env)).all (·.1.isSome) = true := by rfl) (hks : (backToKw pos (keywordEach kws X.env)).filterMap (·.1) = ks := by rfl)
    (hdb : (x == ("__debug__" : Str)) = false := by decide) (hpl : ((backTo pos (starEach [] X.env)).any (·.1) || (backToKw pos (keywordEach kws X.env)).any (·.1.isNone)) = false := by rfl) :
    EE X C Γ Ts (.Call (.Name x p) [] kws pos) Γ1 (.own rm) :=
  (pe_callGK0 F hr hG hg hm hk hb h hall hks hdb hpl).wk fun σ H Q ⟨vs, h, q⟩ => ⟨vs, h, fun zs H1 hl h1 => by
    obtain ⟨rd, h2⟩ := As.ims (by simpa using hl) h1
    exact spR_im hK hn (hg2 zs H1 rd) hrel h2 q⟩
theorem ee_callK {k n : Nat} {f : Addr} {fd : FuncData} {ps ks : List Str} {x : Str} {gV : List V → List V → List V} {g : List Value → List Value → List Value} {rel : List M → M → List M → Prop}
    (F : FnG X.prog X.w X.K X.mg X.base k f fd ps (spR X.K n [] rel)) (hr : Room k X.A) (hG : X.A.guards = some []) (hm : X.mg x = some (.ref f)) (hk : PySem.W.keepIn X.K (.ref f) = true) (hb : KBinds X.K fd ps ks g gV)
    (h0 : EA X C Γ Ts (e :: es) Γ1 (ds1.map T.im)) (h : EKw X C Γ1 (Ts ++ ds1.map T.im) kws Γ2 (ds2.map T.im)) (hg2 : ∀ us zs H, rDs C.K ds1 us H → rDs C.K ds2 zs H → rDs C.K ds (gV us zs) H) (hn : ds.length = n) (hrel : rel (ds.map M.im) rm []) (hg : Gl X x := by rfl) (hK : X.K = C.K := by rfl) (hall : (backToKw pos (keywordEach kws X.env)).all (·.1.isSome) = true := by rfl) (hks : (backToKw pos (keywordEach kws X.env)).filterMap (·.1) = ks := by rfl)
    (hdb : (x == ("__debug__" : Str)) = false := by decide) (he : starEach (e :: es) X.env = (false, eval e X.env) :: starEach es X.env := by rfl) (hpl : ((backTo pos (starEach (e :: es) X.env)).any (·.1) || (backToKw pos (keywordEach kws X.env)).any (·.1.isNone)) = false := by rfl) :
    EE X C Γ Ts (.Call (.Name x p) (e :: es) kws pos) Γ2 (.own rm) :=
  (pe_callGK F hr hG hg hm hk hb h0 h hall hks hdb he hpl).wk fun σ H Q ⟨vs, h, q⟩ => ⟨vs, h, fun us H1 hl h1 => ⟨vs ++ us, h1, fun zs H2 hl2 h2 => by
    obtain ⟨rd2, h3⟩ := As.ims (by simpa using hl2) h2
    obtain ⟨rd1, h4⟩ := As.ims (by simpa using hl) h3
    exact spR_im hK hn (hg2 us zs H2 rd1 rd2) hrel h4 q⟩⟩
end
/-- how a def without defaults takes names -/
theorem kbinds_of {K : PySem.W.Frag} {x qual : Str} {params : Arguments} {body : List Stmt} {scope : Scope} {f : Addr} {fd : FuncData} {ps ks : List Str} {g : List Value → List Value → List Value} {gV : List V → List V → List V} (F : FunD K x qual params body scope [] [] f fd)
    (h : ∀ (kV doc pm : Value) (an : Option Addr) (cdv ct : Value) (us ws : List Value), (g us ws).length = ps.length → bindArgs (PySem.W.fnOf x qual params body scope .none kV doc pm an cdv ct) ⟨us, ks.zip ws⟩ = pure (ps.zip (g us ws)))
    (hr : ∀ {vs : List V} {us : List Value} {zs : List V} {ws : List Value}, Vals vs us → Vals zs ws → Vals (gV vs zs) (g us ws)) : KBinds K fd ps ks g gV := by
  obtain ⟨oc, od, dV, kV, doc, pm, an, cdv, ct, osl, rfl, lk, hcd, hD, hK⟩ := F.ex
  rcases hD with ⟨_, rfl⟩ | ⟨e, _⟩
  · exact ⟨fun s us ws _ hl => .of_eq (h kV doc pm an cdv ct us ws hl), hr⟩
  · exact absurd rfl e
/-- two names, turned about -/
def swp {α : Type} : List α → List α → List α
  | [], [a, b] => [b, a]
  | _, _ => []
def strt {α : Type} : List α → List α → List α
  | [], ws => ws
  | _, _ => []
theorem swp_rel {vs : List V} {us : List Value} {zs : List V} {ws : List Value} (r1 : Vals vs us) (r2 : Vals zs ws) : Vals (swp vs zs) (swp us ws) := by
  cases r1 with
  | nil =>
    cases r2 with
    | nil => exact .nil
    | cons a r2 =>
      cases r2 with
      | nil => exact .nil
      | cons b r2 =>
        cases r2 with
        | nil => exact .cons b (.cons a .nil)
        | cons c r2 => exact .nil
  | cons a r1 => exact .nil
theorem strt_rel {vs : List V} {us : List Value} {zs : List V} {ws : List Value} (r1 : Vals vs us) (r2 : Vals zs ws) : Vals (strt vs zs) (strt us ws) := by
  cases r1 with
  | nil => exact r2
  | cons a r1 => exact .nil
theorem swp_rD {K : PySem.W.Frag} {a b : D} {zs : List V} {H : Hp} (h : rDs K [a, b] zs H) : rDs K [b, a] (swp [] zs) H := by
  unfold rDs at h
  obtain ⟨w, ws, rfl, r1, h⟩ := h
  unfold rDs at h
  obtain ⟨w2, ws2, rfl, r2, h⟩ := h
  unfold rDs at h
  subst h
  show rDs K [b, a] [w2, w] H
  unfold rDs
  exact ⟨_, _, rfl, r2, .one r1⟩
end RL

set_option maxHeartbeats 2000000
/-! RL12: the end of a law -/
namespace RL
open PySem L2 PySem.Spec PyProof.Rows

/-- the law, called as a row calls it -/
theorem lawG {P : Program} {w : World} {K : PySem.W.Frag} {mg mb : Str → Option Value} {k : Nat} {fa a : Addr} {fd : FuncData} {x : Str} {sp : Sp} {s1 : Shared} {vs : List Value} {ns : List Int}
    (kin : K.In s1.heap) (hns : s1.heap.Ns mainGlobals mg) (hb : s1.heap.Ns builtinsNs mb) (hbb : ∀ y : Str, y ≠ "__name__" → mb y = bootBuiltins y) (nol : s1.heap.NoLimit) (hgs : s1.gens = #[])
    (obj : s1.heap.get? a = some { cls := .type "list", data := .seq vs.toArray }) (hin : IntsAre vs ns) (len : ns.length ≤ sizeLine) (room : Room k callerA)
    (F : ∀ base : Heap, K.In base → base.Ns mainGlobals mg → FnG P w K mg base k fa fd [x] sp) (bind : ∀ (s : Shared) (u : Value), BindsTo s fd ⟨[u], []⟩ [(x, u)])
    (hsp : ∀ H : Hp, FzL K H a (ns.map V.int) → sp [.ref a] H (fun v _ => v = .bl true) fun _ _ _ => False) :
    codeAny (model P w) callerA (.call (.ref fa) ⟨[.ref a], []⟩) (fun r s' => r = .ok (.ret (.bool true)) ∧ OldK s1.heap s'.heap ∧ s'.os = s1.os ∧ AllBare s'.gens) s1 := by
  have vals := vals_ints hin
  have vlen := hin.length
  have go : ∀ H : Hp, (∀ b, H b = none ∨ (b = a ∧ H b = some (.frz { cls := .type "list", data := .seq vs.toArray } (.lst (ns.map V.int))))) → FzL K H a (ns.map V.int) → HOk P w H s1.heap → (H a ≠ none → K.lookup a = none) →
      codeAny (model P w) callerA (.call (.ref fa) ⟨[.ref a], []⟩) (fun r s' => r = .ok (.ret (.bool true)) ∧ OldK s1.heap s'.heap ∧ s'.os = s1.os ∧ AllBare s'.gens) s1 := by
    intro H only fz ok nk
    have dictFree : ∀ {b : Addr} {o : Obj} {es : Array DictEntry} {ep : Nat}, s1.heap.get? b = some o → o.data = .dict es ep → H b = none := by
      intro b o es ep e d
      rcases only b with z | ⟨z, _⟩
      · exact z
      · subst z
        rw [obj] at e
        cases e
        have d' : Data.seq vs.toArray _ = Data.dict es ep := d
        cases d'
    have nsB : ∀ {b : Addr} {m : Str → Option Value}, s1.heap.Ns b m → (hidT s1.heap H).Ns b m := by
      rintro b m ⟨o, es, ep, e, d, r⟩
      exact ⟨o, es, ep, hidT_get e (dictFree e d), d, r⟩
    have kinB : K.In (hidT s1.heap H) := by
      intro b o e
      refine hidT_get (kin b o e) ?_
      rcases only b with z | ⟨z, q⟩
      · exact z
      · subst z
        rw [nk (by rw [q]; simp)] at e
        cases e
    have env : Env0 P w K mg (hidT s1.heap H) callerA [] s1 H := by
      refine ⟨rfl, ⟨kinB, nsB hns, ⟨mb, nsB hb, hbb⟩, ?_⟩, fun b o e => of_hidT e, Nat.le_of_eq (hidT_size _ _), trivial, ?_, ok, .of_eq hgs⟩
      · obtain ⟨mc, h1, h2⟩ := nol
        exact ⟨mc, nsB h1, h2⟩
      · intro b hb
        exact absurd (show b ∈ ([] : List Addr) from hb) (by simp)
    refine codeAny_mono ((F _ kinB (nsB hns)).go callerA [] s1 H ⟨[.ref a], []⟩ [.ref a] [.ref a] _ _ room rfl env (bind s1 (.ref a)) (.cons rfl .nil) (hsp H fz)) (fun r s' h => ?_)
    match r, h with
    | .error e, h => exact h.elim
    | .ok .next, h => exact h.elim
    | .ok .brk, h => exact h.elim
    | .ok .cont, h => exact h.elim
    | .ok (.ret u), h =>
      obtain ⟨v, H', os, bare, un, ok', rel, q⟩ := h
      have q' : v = .bl true := q
      subst q'
      obtain rfl : u = Value.bool true := rel
      refine ⟨rfl, OldK.of_keep (fun b o e => ?_), os, bare⟩
      rcases only b with z | ⟨z, z2⟩
      · exact un.keep b o e z (fun m => absurd (show b ∈ ([] : List Addr) from m) (by simp)) (by simp)
      · have e1 := (ok b _ z2).1
        have e2 := (ok' b _ (un.frzs b _ _ z2)).1
        rw [e] at e1
        cases e1
        exact e2
  cases hk : K.lookup a with
  | some o =>
    have e := kin a o hk
    rw [obj] at e
    cases e
    refine go (fun _ => none) (fun _ => .inl rfl) (.inr ⟨_, vs.toArray, _, hk, rfl, rfl, rfl, by rw [List.size_toArray, vlen]; exact len, by simpa using vals⟩) ?_ fun z => absurd rfl z
    intro b u z
    cases z
  | none =>
    refine go (fun b => if b = a then some (.frz { cls := .type "list", data := .seq vs.toArray } (.lst (ns.map V.int))) else none) (fun b => ?_) (.inl ⟨_, if_pos rfl⟩) ?_ fun _ => hk
    · by_cases e : b = a
      · exact .inr ⟨e, if_pos e⟩
      · exact .inl (if_neg e)
    · intro b u z
      by_cases e : b = a
      · subst e
        have z' := (if_pos rfl).symm.trans z
        cases z'
        exact ⟨obj, by rw [List.length_map]; exact len, vs, _, vals, obj⟩
      · have z' := (if_neg e).symm.trans z
        cases z'
/-- what a law has to come to -/
def lawRel (n : Nat) (f : List Int → Option Bool) : List M → M → List M → Prop := fun ms r ms' => ∃ ns : List Int, ns.length ≤ n ∧ ms = [.im (.lst (ns.map .int))] ∧ f ns = some true ∧ r = .im (.bl true) ∧ ms' = []
/-- the goal that a head leaves -/
theorem walkG {l : PySem.W.OpenLaw} {n k : Nat} {q : Program} {loose : List Str} {XP : (Str → Option Value) → Heap → Prop} {YP : World → Heap → Prop} {d : DefRec} {x : Str}
    (hn : l.most = some n) (hn2 : n ≤ sizeLine) (hdf : d.params.defaults = []) (room : Room k callerA)
    (F : ∀ (w : World) (mg : Str → Option Value) (fa : Addr) (h : Heap), YP w h → h.Ns mainGlobals mg → mg d.name = some (.ref fa) →
      ∃ (K : PySem.W.Frag) (fd : FuncData) (f : List Int → Option Bool), K.In h ∧ (∀ (s : Shared) (u : Value), BindsTo s fd ⟨[u], []⟩ [(x, u)]) ∧ (∀ ns : List Int, ns.length ≤ n → f ns = some true) ∧
        ∀ base : Heap, K.In base → base.Ns mainGlobals mg → FnG l.prog w K mg base k fa fd [x] (spR K 1 [] (lawRel n f))) :
    PySem.W.WalkO q loose XP YP l.row.toRowW d [] (fun f vs => PySem.call f vs) := by
  refine Att.attach_call hn hdf fun w s₀ s₁ mg mb fa o pm cd doc a vs ns G Y ho hd hcd hmg hobj hints hlen hg => ?_
  obtain ⟨K, fd, f, KX, hb, hf, hF⟩ := F w mg fa _ Y G.T.g hmg
  refine lawG KX G.T.g G.T.b G.T.builtins G.T.nolimit hg hobj hints (Nat.le_trans hlen hn2) room hF hb fun H fz => ?_
  refine ⟨[.im (.lst (ns.map .int))], e0, .im (.bl true), [], rfl, ?_, ⟨ns, hlen, rfl, hf ns hlen, rfl, rfl⟩, rfl, fun v H' F' h1 _ _ => ?_⟩
  · refine rMs.im (ds := [.lst (ns.map .int)]) (.one ?_) fun _ z => z
    unfold rD
    refine ⟨a, _, rfl, fz, ?_⟩
    clear hf hlen fz hints
    induction ns with
    | nil => show rDs K [] [] H; unfold rDs; rfl
    | cons n ns ih =>
      show rDs K (D.int n :: ns.map D.int) (V.int n :: ns.map V.int) H
      unfold rDs
      exact ⟨_, _, rfl, by unfold rD; rfl, ih⟩
  · unfold rMs at h1
    obtain ⟨v', _, _, _, e, r, _⟩ := h1
    cases e
    unfold rM at r
    have r := r.1
    unfold rD at r
    exact r
end RL

set_option maxHeartbeats 2000000
/-! RL13: what lies within a slot: dicts, lists of lists -/
namespace RL
open PySem L2

/-- what stands at a key, first of its kind -/
def getM : List (Key × M) → Key → Option M
  | [], _ => none
  | (k, m) :: l, x => if k = x then some m else getM l x
def updM : List (Key × M) → Key → M → List (Key × M)
  | [], _, _ => []
  | (k, m) :: l, x, m' => if k = x then (k, m') :: l else (k, m) :: updM l x m'
theorem valV_cons {k x : Key} {v : V} {r : List (Key × V)} : valV ((k, v) :: r) x = if k = x then some v else valV r x := by
  by_cases h : k = x
  · rw [if_pos h]; exact valV_pos h
  · rw [if_neg h]; exact valV_neg h
section
variable {K : PySem.W.Frag} {H : Hp}
theorem rMk.zoom {k : Key} {m : M} : ∀ {ks : List (Key × M)} {kvs : List (Key × V)} {F : FS}, rMk K ks kvs H F → getM ks k = some m →
    ∃ v F1, valV kvs k = some v ∧ rM K m v H F1 ∧ (∀ a, F1 a → F a) ∧ ∀ m' H' F1', TF H H' → (∀ a, F a → ¬ F1 a → H' a = H a) → rM K m' v H' F1' → (∀ a, F1' a → F1 a ∨ ¬ F a) →
      ∃ F', rMk K (updM ks k m') kvs H' F' ∧ ∀ a, F' a → (F a ∧ ¬ F1 a) ∨ F1' a
  | [], kvs, F, h, e => by cases e
  | (x, m0) :: ks, kvs, F, h, e => by
    unfold rMk at h
    obtain ⟨w, ws, Fa, Fb, rfl, r1, r2, dj, f⟩ := h
    unfold getM at e
    by_cases hx : x = k
    · rw [if_pos hx] at e
      cases e
      refine ⟨w, Fa, by rw [valV_cons, if_pos hx], r1, fun a z => (f a).2 (.inl z), fun m' H' F1' tf keep r n => ⟨fun a => F1' a ∨ Fb a, ?_, ?_⟩⟩
      · unfold updM
        rw [if_pos hx]
        unfold rMk
        refine ⟨w, ws, F1', Fb, rfl, r, rMk.st tf (fun a ha => keep a ((f a).2 (.inr ha)) fun z => dj a z ha) r2, fun a z1 z2 => ?_, fun a => Iff.rfl⟩
        rcases n a z1 with z | z
        · exact dj a z z2
        · exact z ((f a).2 (.inr z2))
      · intro a z
        rcases z with z | z
        · exact .inr z
        · exact .inl ⟨(f a).2 (.inr z), fun y => dj a y z⟩
    · rw [if_neg hx] at e
      obtain ⟨v, F1, hv, rv, hs, q⟩ := rMk.zoom r2 e
      refine ⟨v, F1, by rw [valV_cons, if_neg hx]; exact hv, rv, fun a z => (f a).2 (.inr (hs a z)), fun m' H' F1' tf keep r n => ?_⟩
      obtain ⟨F2, r2', n2⟩ := q m' H' F1' tf (fun a z1 z2 => keep a ((f a).2 (.inr z1)) z2) r fun a z => (n a z).elim .inl fun y => .inr fun x => y ((f a).2 (.inr x))
      refine ⟨fun a => Fa a ∨ F2 a, ?_, ?_⟩
      · unfold updM
        rw [if_neg hx]
        unfold rMk
        refine ⟨w, ws, Fa, F2, rfl, rM.st tf (fun a ha => keep a ((f a).2 (.inl ha)) fun z => dj a ha (hs a z)) r1, r2', fun a z1 z2 => ?_, fun a => Iff.rfl⟩
        rcases n2 a z2 with z | z
        · exact dj a z1 z.1
        · rcases n a z with y | y
          · exact dj a z1 (hs a y)
          · exact y ((f a).2 (.inl z1))
      · intro a z
        rcases z with z | z
        · exact .inl ⟨(f a).2 (.inl z), fun y => dj a z (hs a y)⟩
        · exact (n2 a z).imp (fun y => ⟨(f a).2 (.inr y.1), y.2⟩) id
theorem rMs.zoom {m : M} : ∀ {ms : List M} {us : List V} {F : FS} {j : Nat}, rMs K ms us H F → ms[j]? = some m →
    ∃ v F1, us[j]? = some v ∧ rM K m v H F1 ∧ (∀ a, F1 a → F a) ∧ ∀ m' H' F1', TF H H' → (∀ a, F a → ¬ F1 a → H' a = H a) → rM K m' v H' F1' → (∀ a, F1' a → F1 a ∨ ¬ F a) →
      ∃ F', rMs K (ms.set j m') us H' F' ∧ ∀ a, F' a → (F a ∧ ¬ F1 a) ∨ F1' a
  | [], us, F, j, h, e => by simp at e
  | m0 :: ms, us, F, 0, h, e => by
    unfold rMs at h
    obtain ⟨w, ws, Fa, Fb, rfl, r1, r2, dj, f⟩ := h
    cases e
    refine ⟨w, Fa, rfl, r1, fun a z => (f a).2 (.inl z), fun m' H' F1' tf keep r n => ⟨fun a => F1' a ∨ Fb a, ?_, ?_⟩⟩
    · rw [List.set_cons_zero]
      unfold rMs
      refine ⟨w, ws, F1', Fb, rfl, r, rMs.st tf (fun a ha => keep a ((f a).2 (.inr ha)) fun z => dj a z ha) r2, fun a z1 z2 => ?_, fun a => Iff.rfl⟩
      rcases n a z1 with z | z
      · exact dj a z z2
      · exact z ((f a).2 (.inr z2))
    · intro a z
      rcases z with z | z
      · exact .inr z
      · exact .inl ⟨(f a).2 (.inr z), fun y => dj a y z⟩
  | m0 :: ms, us, F, j + 1, h, e => by
    unfold rMs at h
    obtain ⟨w, ws, Fa, Fb, rfl, r1, r2, dj, f⟩ := h
    obtain ⟨v, F1, hv, rv, hs, q⟩ := rMs.zoom (j := j) r2 (by simpa using e)
    refine ⟨v, F1, by simpa using hv, rv, fun a z => (f a).2 (.inr (hs a z)), fun m' H' F1' tf keep r n => ?_⟩
    obtain ⟨F2, r2', n2⟩ := q m' H' F1' tf (fun a z1 z2 => keep a ((f a).2 (.inr z1)) z2) r fun a z => (n a z).elim .inl fun y => .inr fun x => y ((f a).2 (.inr x))
    refine ⟨fun a => Fa a ∨ F2 a, ?_, ?_⟩
    · rw [List.set_cons_succ]
      unfold rMs
      refine ⟨w, ws, Fa, F2, rfl, rM.st tf (fun a ha => keep a ((f a).2 (.inl ha)) fun z => dj a ha (hs a z)) r1, r2', fun a z1 z2 => ?_, fun a => Iff.rfl⟩
      rcases n2 a z2 with z | z
      · exact dj a z1 z.1
      · rcases n a z with y | y
        · exact dj a z1 (hs a y)
        · exact y ((f a).2 (.inl z1))
    · intro a z
      rcases z with z | z
      · exact .inl ⟨(f a).2 (.inl z), fun y => dj a z (hs a y)⟩
      · exact (n2 a z).imp (fun y => ⟨(f a).2 (.inr y.1), y.2⟩) id
end

/-- a step into what a slot holds -/
inductive Sp1 where
  | k (k : Key) | i (n : Int)
def Sp1.d : Sp1 → D
  | .k (.inl n) => .int n
  | .k (.inr x) => .str x
  | .i n => .int n
def Sp1.v : Sp1 → V
  | .k x => kV x
  | .i n => .int n
theorem Sp1.rd {K : PySem.W.Frag} {H : Hp} {s : Sp1} {y : V} (h : rD K s.d y H) : y = s.v := by
  rcases s with (n | x) | n <;> (unfold Sp1.d rD at h; exact h)
/-- what lies there -/
def M.sub : M → Sp1 → Option M
  | .dk ks, .k k => getM ks k
  | .ll ms, .i n => atI ms n
  | .li ds, .i n => (atI ds n).map .im
  | _, _ => none
def setI {α : Type} (xs : List α) (n : Int) (x : α) : List α := match ixN xs.length n with
  | some j => xs.set j x
  | none => xs
/-- something else there, in its place -/
def M.chg : M → Sp1 → M → M
  | .dk ks, .k k, m => .dk (updM ks k m)
  | .ll ms, .i n, m => .ll (setI ms n m)
  | m, _, _ => m
def VS (H : Hp) (s : Sp1) (v u : V) : Prop := match s with
  | .k k => ∃ p kvs, v = .ref p ∧ H p = some (.dK kvs) ∧ valV kvs k = some u
  | .i n => ∃ p us, v = .ref p ∧ H p = some (.lst us) ∧ atI us n = some u
theorem rM.zoom {K : PySem.W.Frag} {H : Hp} {m m1 : M} {s : Sp1} {v : V} {F : FS} (h : rM K m v H F) (e : m.sub s = some m1) (nim : ∀ ds, m ≠ .li ds) :
    ∃ u F1, VS H s v u ∧ rM K m1 u H F1 ∧ (∀ a, F1 a → F a) ∧ ∀ m' H' F1', TF H H' → (∀ a, F a → ¬ F1 a → H' a = H a) → rM K m' u H' F1' → (∀ a, F1' a → F1 a ∨ ¬ F a) →
      ∃ F', rM K (m.chg s m') v H' F' ∧ ∀ a, F' a → (F a ∧ ¬ F1 a) ∨ F1' a := by
  cases m with
  | im d => cases e
  | li ds => exact absurd rfl (nim ds)
  | ll ms =>
    cases s with
    | k k => cases e
    | i n =>
      unfold rM at h
      obtain ⟨a, us, F0, rfl, ho, r, hn, f⟩ := h
      have e : atI ms n = some m1 := e
      unfold atI at e
      cases q : ixN ms.length n with
      | none => rw [q] at e; cases e
      | some j =>
        rw [q] at e
        obtain ⟨u, F1, hu, ru, hs, z⟩ := r.zoom e
        refine ⟨u, F1, ⟨a, us, rfl, ho, by unfold atI; rw [r.len, q]; exact hu⟩, ru, fun b y => (f b).2 (.inr (hs b y)), fun m' H' F1' tf keep r' n' => ?_⟩
        obtain ⟨F2, r2, n2⟩ := z m' H' F1' tf (fun b y1 y2 => keep b ((f b).2 (.inr y1)) y2) r' fun b y => (n' b y).imp id fun y2 y3 => y2 ((f b).2 (.inr y3))
        have na : ¬ F2 a := fun y => by
          rcases n2 a y with y | y
          · exact hn y.1
          · rcases n' a y with y | y
            · exact hn (hs a y)
            · exact y ((f a).2 (.inl rfl))
        refine ⟨fun b => b = a ∨ F2 b, ?_, fun b y => ?_⟩
        · have e2 : setI ms n m' = ms.set j m' := by unfold setI; rw [q]
          show rM K (.ll (setI ms n m')) _ _ _
          rw [e2]
          unfold rM
          exact ⟨a, us, F2, rfl, (keep a ((f a).2 (.inl rfl)) fun y => hn (hs a y)).trans ho, r2, na, fun b => Iff.rfl⟩
        · rcases y with y | y
          · subst y; exact .inl ⟨(f b).2 (.inl rfl), fun y => hn (hs b y)⟩
          · exact (n2 b y).imp (fun y => ⟨(f b).2 (.inr y.1), y.2⟩) id
  | dk ks =>
    cases s with
    | i n => cases e
    | k k =>
      unfold rM at h
      obtain ⟨a, kvs, F0, rfl, ho, r, hn, f⟩ := h
      obtain ⟨u, F1, hu, ru, hs, z⟩ := r.zoom (show getM ks k = some m1 from e)
      refine ⟨u, F1, ⟨a, kvs, rfl, ho, hu⟩, ru, fun b y => (f b).2 (.inr (hs b y)), fun m' H' F1' tf keep r' n' => ?_⟩
      obtain ⟨F2, r2, n2⟩ := z m' H' F1' tf (fun b y1 y2 => keep b ((f b).2 (.inr y1)) y2) r' fun b y => (n' b y).imp id fun y2 y3 => y2 ((f b).2 (.inr y3))
      have na : ¬ F2 a := fun y => by
        rcases n2 a y with y | y
        · exact hn y.1
        · rcases n' a y with y | y
          · exact hn (hs a y)
          · exact y ((f a).2 (.inl rfl))
      refine ⟨fun b => b = a ∨ F2 b, ?_, fun b y => ?_⟩
      · show rM K (.dk (updM ks k m')) _ _ _
        unfold rM
        exact ⟨a, kvs, F2, rfl, (keep a ((f a).2 (.inl rfl)) fun y => hn (hs a y)).trans ho, r2, na, fun b => Iff.rfl⟩
      · rcases y with y | y
        · subst y; exact .inl ⟨(f b).2 (.inl rfl), fun y => hn (hs b y)⟩
        · exact (n2 b y).imp (fun y => ⟨(f b).2 (.inr y.1), y.2⟩) id

/-- how a subscription by the step reads -/
def SubR (X : Cx) (s : Sp1) (r : R2) : Prop := (∀ {a b : Expr} {pos : Pos} {ta tb : TE}, PE X a ta → PE X b tb → PlainIx b → PE X (.Subscript a b pos) (tOp r ta tb)) ∧ ∀ H v u Q, VS H s v u → Q u H → r v s.v H Q
def rDG : R2 := fun x y H Q => ∃ a v, x = .ref a ∧ DGet H a y (some v) ∧ Q v H
theorem sub_k {X : Cx} {k : Key} (hu : X.A.units + 64 < cLine) : SubR X (.k k) rDG := ⟨fun ha hb hs => pe_dget (by omega) ha hb hs, fun H v u Q ⟨p, kvs, e, ho, hv⟩ q => ⟨p, u, e, by rw [← hv]; exact DGet.k ho, q⟩⟩
theorem sub_i {X : Cx} {n : Int} : SubR X (.i n) (rIxL X.K) := ⟨fun ha hb hs => pe_ix ix_list ha hb hs, fun H v u Q ⟨p, us, e, ho, hv⟩ q => ⟨p, us, n, u, e, rfl, SqL.of ho, hv, q⟩⟩

section
variable {X : Cx} {C : Cn} {Γ Γ1 Γ2 Γ3 Γ' : Ctx} {Ts Hs : List T} {t t1 t2 t3 : T} {ts : List T} {e a b c nm : Expr} {es rest : List Expr} {pos p apos cpos : Pos} {i j : Nat} {d d1 d2 d3 : D} {ds ds' : List D} {m : M} {b1 b2 k : Bool} {s : Sp1} {r : R2}
theorem As.zoom {σ : L2.St} {vs : List V} {H : Hp} {m1 : M} (h : As C Γ Ts σ vs H) (hj : Γ[j]? = some (some m)) (e : m.sub s = some m1) : ∃ v u, σ[j]? = some (some v) ∧ VS H s v u ∧ (∃ F1, rM C.K m1 u H F1) := by
  obtain ⟨v, F, hv, r, _⟩ := h.slot hj
  by_cases z : ∃ ds, m = .li ds
  · obtain ⟨ds, rfl⟩ := z
    cases s with
    | k k => cases e
    | i n =>
      unfold rM at r
      obtain ⟨a, us, rfl, ho, rd, f⟩ := r
      have e : (atI ds n).map M.im = some m1 := e
      cases q : atI ds n with
      | none => rw [q] at e; cases e
      | some d =>
        rw [q] at e
        cases e
        obtain ⟨u, hu, ru⟩ := rd.at q
        exact ⟨_, u, hv, ⟨a, us, rfl, ho, hu⟩, e0, by unfold rM; exact ⟨ru, fun _ y => y⟩⟩
  · obtain ⟨u, F1, hu, ru, _⟩ := r.zoom e fun ds z2 => z ⟨ds, z2⟩
    exact ⟨v, u, hv, hu, F1, ru⟩
/-- the list within the slot j becomes another one -/
theorem As.zset {σ : L2.St} {vs : List V} {H : Hp} (h : As C Γ Ts σ vs H) (hj : Γ[j]? = some (some m)) (e : m.sub s = some (.li ds)) : ∃ v a us, σ[j]? = some (some v) ∧ VS H s v (.ref a) ∧ H a = some (.lst us) ∧ rDs C.K ds us H ∧
    ∀ us' ds', rDs C.K ds' us' H → As C (Γ.set j (some (m.chg s (.li ds')))) Ts σ vs (upd H a (.lst us')) := by
  obtain ⟨v, F, hv, r, q⟩ := h.slot hj
  have nim : ∀ l, m ≠ .li l := fun l z => by
    subst z
    cases s with
    | k k => cases e
    | i n =>
      have e : (atI l n).map M.im = some (.li ds) := e
      cases q : atI l n with
      | none => rw [q] at e; cases e
      | some d => rw [q] at e; cases e
  obtain ⟨u, F1, hu, ru, hs, z⟩ := r.zoom e nim
  have ru' := ru
  unfold rM at ru
  obtain ⟨a, us, rfl, ho, rd, f⟩ := ru
  refine ⟨v, a, us, hv, hu, ho, rd, fun us' ds' rd' => ?_⟩
  have mu : Mut (H a) := by rw [ho]; trivial
  have tf : TF H (upd H a (.lst us')) := TF.write mu
  obtain ⟨F', r', n'⟩ := z (.li ds') (upd H a (.lst us')) F1 tf (fun b _ nb => upd_ne fun y => nb ((f b).2 y)) (by
    unfold rM
    exact ⟨a, us', rfl, upd_same, rd'.tf tf, f⟩) fun b y => .inl y
  refine q _ _ F' tf (fun b nb _ => upd_ne fun y => nb (hs b ((f b).2 y))) r' fun b y => ?_
  rcases n' b y with y | y
  · exact .inl y.1
  · exact .inl (hs b y)
/-- x[k], a datum -/
theorem ee_at (j : Nat) (S : SubR X s r) (hn : PE X nm (tVar j)) (hj : Γ[j]? = some (some m)) (hb : EE X C Γ (Ts ++ [.al j]) b Γ (.im s.d)) (e : m.sub s = some (.im d)) (hs : PlainIx b := by exact fun _ _ => rfl) : EE X C Γ Ts (.Subscript nm b pos) Γ (.im d) :=
  op_wk (ee_al j hn hj) hb (fun σ vs x y H hA Q q => by
    have ey := Sp1.rd hA.topIm
    subst ey
    obtain ⟨F, ⟨hσ, _⟩, _⟩ := hA.pop.top
    obtain ⟨v, u, hv, hu, F1, ru⟩ := hA.pop.pop.zoom hj e
    rw [hσ] at hv
    cases hv
    unfold rM at ru
    exact S.2 H x u Q hu (q u H (hA.pop.pop.pushIm Ext.refl ru.1))) (S.1 (ee_al (C := C) (Γ := Γ) (Ts := Ts) j hn hj) hb hs)
/-- evaluation that leaves the heap as it is -/
def EQ (X : Cx) (C : Cn) (Γ : Ctx) (e : Expr) (d : D) : Prop := ∃ te, PE X e te ∧ ∀ σ H Ts vs (Q : VK), As C Γ Ts σ vs H → (∀ v, rD C.K d v H → Q v H) → te σ H Q
theorem eq_var (i : Nat) (h : PE X e (tVar i)) (hi : Γ[i]? = some (some (.im d)) := by rfl) : EQ X C Γ e d := ⟨_, h, fun σ H Ts vs Q hA q => by
  obtain ⟨v, hv, r⟩ := hA.slotIm hi
  exact ⟨v, hv, q v r⟩⟩
theorem eq_int {n : Int} {j} : EQ X C Γ (.Constant (.int n) j pos) (.int n) := ⟨_, pe_int, fun σ H Ts vs Q hA q => q _ (by unfold rD; rfl)⟩
theorem eq_fdivW {n n' : Int} (hc : CDivW n n') (h1 : EQ X C Γ a (.int n)) (h2 : EQ X C Γ b (.int n')) : EQ X C Γ (.BinOp a .FloorDiv b pos) (.int (n / n')) := by
  obtain ⟨t1, p1, q1⟩ := h1
  obtain ⟨t2, p2, q2⟩ := h2
  refine ⟨_, pe_op op_fdivW p1 p2, fun σ H Ts vs Q hA q => q1 σ H Ts vs _ hA fun v r => q2 σ H Ts vs _ hA fun w r' => ?_⟩
  unfold rD at r r'
  exact ⟨n, n', r, r', hc, q _ (by unfold rD; rfl)⟩
/-- x[k] != [] -/
theorem et_neNilZ (hu : X.A.units + 64 < cLine) (j : Nat) (S : SubR X s r) (hn : PE X nm (tVar j)) (hj : Γ[j]? = some (some m)) (hb : EE X C Γ (Ts ++ [.al j]) b Γ (.im s.d)) (e : m.sub s = some (.li ds)) (ho : oks ds = true) {q1 : Pos} (hs : PlainIx b := by exact fun _ _ => rfl) (hK : X.K = C.K := by rfl) :
    ET X C Γ Ts (.Compare (.Subscript nm b p) [.NotEq] [.List [] q1] pos) Γ (!ds.isEmpty) :=
  (pt_cmpR (op_neB hu) (S.1 (ee_al (C := C) (Γ := Γ) (Ts := Ts) j hn hj) hb hs) (pe_lst pa_nil) (nomark _)).wk fun σ H Q ⟨vs, h, q⟩ => ⟨vs, h, fun v H1 h1 => ⟨vs ++ [v], h1, fun y H2 h2 => by
    have ey := Sp1.rd h2.topIm
    subst ey
    obtain ⟨F, ⟨hσ, _⟩, _⟩ := h2.pop.top
    obtain ⟨v', u, hv, hu', F1, ru⟩ := h2.pop.pop.zoom hj e
    rw [hσ] at hv
    cases hv
    unfold rM at ru
    obtain ⟨a, us, rfl, hl, rd, _⟩ := ru
    refine S.2 H2 v (.ref a) _ hu' ⟨Nat.zero_le _, fun w hw => ⟨_, _, ?_, ?_, by unfold PyData.canLay0; exact oks_lay ho, ?_, dep_nil (.list (ps ds)), ⟨_, rfl, ?_⟩⟩⟩
    · exact .l ho (SqL.of ((upd_ne fun z => by subst z; rw [hl] at hw; cases hw).trans hl)) (by rw [hK]; exact rd.tf (Ext.new hw).tf)
    · exact .l (l := []) (by unfold oks; rfl) (SqL.of upd_same) (by unfold rDs; rfl)
    · unfold ps PyData.canLay0 PyData.canLayAll0; rfl
    · rw [eqv_nil]
      exact q _ (h2.pop.pop.ext (Ext.new hw))⟩⟩
/-- x[k].pop() -/
theorem ee_popZ (j : Nat) (S : SubR X s r) (hn : PE X nm (tVar j)) (hj : Γ[j]? = some (some m)) (hb : EE X C Γ (Ts ++ [.al j]) b Γ (.im s.d)) (e : m.sub s = some (.li ds)) (hd : ds.getLast? = some d) (hs : PlainIx b := by exact fun _ _ => rfl)
    (hbase : attributeBase (.Subscript nm b p) "pop" X.env (eval (.Subscript nm b p) X.env) = eval (.Subscript nm b p) X.env := by rfl) (hline : (apos.endLine == cpos.line) = true := by rfl) :
    EE X C Γ Ts (.Call (.Attribute (.Subscript nm b p) "pop" apos) [] [] cpos) (Γ.set j (some (m.chg s (.li ds.dropLast)))) (.im d) := by
  refine (pe_bm0 PySem.F.plainAttrs_list PySem.F.slot_list_pop PySem.F.type_list_pop mt_pop (S.1 (ee_al (C := C) (Γ := Γ) (Ts := Ts) j hn hj) hb hs) hbase hline).wk fun σ H Q ⟨vs, h, q⟩ => ⟨vs, h, fun v H1 h1 => ⟨vs ++ [v], h1, fun y H2 h2 => ?_⟩⟩
  have ey := Sp1.rd h2.topIm
  subst ey
  obtain ⟨F, ⟨hσ, _⟩, _⟩ := h2.pop.top
  obtain ⟨v', a, us, hv, hz, hl, rd, put⟩ := h2.pop.pop.zset hj e
  rw [hσ] at hv
  cases hv
  refine S.2 H2 v (.ref a) _ hz ?_
  have hd' : ds[ds.length - 1]? = some d := by rw [← List.getLast?_eq_getElem?]; exact hd
  obtain ⟨u, hu, ru⟩ := rd.get hd'
  have rdl : rDs C.K ds.dropLast us.dropLast H2 := by
    rw [List.dropLast_eq_take, List.dropLast_eq_take, rd.len]
    exact rd.take _
  refine ⟨tyV_lst hl, a, us, u, rfl, rfl, hl, by rw [rd.len]; exact hu, q _ _ ((put _ _ rdl).pushIm Ext.refl (ru.tf (TF.write ?_)))⟩
  rw [hl]
  trivial
/-- x[k].append(e), e leaving the heap as it is -/
theorem ee_appZ (j : Nat) (S : SubR X s r) (hn : PE X nm (tVar j)) (hj : Γ[j]? = some (some m)) (hb : EE X C Γ (Ts ++ [.al j]) b Γ (.im s.d)) (e1 : m.sub s = some (.li ds)) (he : EQ X C Γ e d) (hlen : ds.length < sizeLine) (hs : PlainIx b := by exact fun _ _ => rfl)
    (hbase : attributeBase (.Subscript nm b p) "append" X.env (eval (.Subscript nm b p) X.env) = eval (.Subscript nm b p) X.env := by rfl)
    (hfew : ((backTo cpos (starEach [e] X.env)).all (fun x => !x.1) && (backToKw cpos (keywordEach [] X.env)).all (fun x => x.1.isSome)
      && decide ([e].length + ([] : List Keyword).length + (if ([] : List Keyword).isEmpty then 0 else 1) < 30)) = true := by rfl)
    (hline : (apos.endLine == cpos.line) = true := by rfl) (hst : starEach [e] X.env = (false, eval e X.env) :: starEach [] X.env := by rfl) (hplain : (backTo cpos (starEach [] X.env)).any (·.1) = false := by rfl) :
    EE X C Γ Ts (.Call (.Attribute (.Subscript nm b p) "append" apos) [e] [] cpos) (Γ.set j (some (m.chg s (.li (ds ++ [d]))))) (.im .non) := by
  obtain ⟨te, pe, hte⟩ := he
  refine (pe_bm PySem.F.plainAttrs_list PySem.F.slot_list_append PySem.F.type_list_append mt_append (S.1 (ee_al (C := C) (Γ := Γ) (Ts := Ts) j hn hj) hb hs) (pa_cons pe pa_nil hst) hbase hfew hline hst hplain).wk fun σ H Q ⟨vs, h, q⟩ => ⟨vs, h, fun v H1 h1 => ⟨vs ++ [v], h1, fun y H2 h2 => ?_⟩⟩
  have ey := Sp1.rd h2.topIm
  subst ey
  obtain ⟨F, ⟨hσ, _⟩, _⟩ := h2.pop.top
  obtain ⟨v', a, us, hv, hz, hl, rd, put⟩ := h2.pop.pop.zset hj e1
  rw [hσ] at hv
  cases hv
  refine S.2 H2 v (.ref a) _ hz ⟨tyV_lst hl, hte σ H2 Ts vs _ h2.pop.pop fun u ru => ?_⟩
  exact ⟨a, us, u, rfl, rfl, hl, by rw [rd.len]; exact hlen, q _ _ ((put _ _ (rd.app (.one ru))).pushIm Ext.refl (by unfold rD; rfl))⟩
end

/-! ### a datum is stored at a key -/
def putM (ks : List (Key × M)) (k : Key) (m : M) : List (Key × M) := if (getM ks k).isSome then ks.map fun kv => if kv.1 = k then (kv.1, m) else kv else ks ++ [(k, m)]
theorem getM_val {K : PySem.W.Frag} {H : Hp} {k : Key} : ∀ {ks : List (Key × M)} {kvs : List (Key × V)} {F : FS}, rMk K ks kvs H F → (valV kvs k).isSome = (getM ks k).isSome
  | [], kvs, F, h => by unfold rMk at h; rw [h.1] <;> rfl
  | (x, m) :: ks, kvs, F, h => by
    unfold rMk at h
    obtain ⟨w, ws, _, _, rfl, _, r2, _, _⟩ := h
    rw [valV_cons]
    unfold getM
    by_cases hx : x = k
    · rw [if_pos hx, if_pos hx] <;> rfl
    · rw [if_neg hx, if_neg hx]
      exact getM_val r2
theorem rMk.len {K : PySem.W.Frag} {H : Hp} : ∀ {ks : List (Key × M)} {kvs : List (Key × V)} {F : FS}, rMk K ks kvs H F → kvs.length = ks.length
  | [], kvs, F, h => by unfold rMk at h; rw [h.1] <;> rfl
  | (x, m) :: ks, kvs, F, h => by
    unfold rMk at h
    obtain ⟨w, ws, _, _, rfl, _, r2, _, _⟩ := h
    rw [List.length_cons, List.length_cons, r2.len]
theorem rMk.map {K : PySem.W.Frag} {H : Hp} {k : Key} {d : D} {v : V} (r : rD K d v H) : ∀ {ks : List (Key × M)} {kvs : List (Key × V)} {F : FS}, rMk K ks kvs H F →
    ∃ F', rMk K (ks.map fun kv => if kv.1 = k then (kv.1, .im d) else kv) (kvs.map fun kv => if kv.1 = k then (kv.1, v) else kv) H F' ∧ ∀ a, F' a → F a
  | [], kvs, F, h => by
    unfold rMk at h
    rw [h.1]
    exact ⟨e0, by unfold rMk; exact ⟨rfl, fun _ z => z⟩, fun a z => z.elim⟩
  | (x, m) :: ks, kvs, F, h => by
    unfold rMk at h
    obtain ⟨w, ws, Fa, Fb, rfl, r1, r2, dj, f⟩ := h
    obtain ⟨F2, r2', n2⟩ := rMk.map r r2
    rw [List.map_cons, List.map_cons]
    by_cases hx : x = k
    · rw [if_pos hx, if_pos hx]
      refine ⟨F2, ?_, fun a z => (f a).2 (.inr (n2 a z))⟩
      unfold rMk
      exact ⟨v, _, e0, F2, rfl, by unfold rM; exact ⟨r, fun _ z => z⟩, r2', Dj.e0l, fun a => ⟨.inr, fun z => z.elim (fun y => y.elim) id⟩⟩
    · rw [if_neg hx, if_neg hx]
      refine ⟨fun a => Fa a ∨ F2 a, ?_, fun a z => z.elim (fun y => (f a).2 (.inl y)) fun y => (f a).2 (.inr (n2 a y))⟩
      unfold rMk
      exact ⟨w, _, Fa, F2, rfl, r1, r2', fun a y1 y2 => dj a y1 (n2 a y2), fun a => Iff.rfl⟩
theorem rMk.snoc {K : PySem.W.Frag} {H : Hp} {k : Key} {m : M} {v : V} {G : FS} (r : rM K m v H G) : ∀ {ks : List (Key × M)} {kvs : List (Key × V)} {F : FS}, rMk K ks kvs H F → Dj F G →
    rMk K (ks ++ [(k, m)]) (kvs ++ [(k, v)]) H (fun a => F a ∨ G a)
  | [], kvs, F, h, dj => by
    unfold rMk at h
    rw [h.1]
    show rMk K [(k, m)] [(k, v)] H _
    unfold rMk
    exact ⟨v, [], G, e0, rfl, r, by unfold rMk; exact ⟨rfl, fun _ z => z⟩, Dj.e0r, fun a => ⟨fun z => z.elim (fun y => absurd y (h.2 a)) .inl, fun z => z.elim .inr fun y => y.elim⟩⟩
  | (x, m0) :: ks, kvs, F, h, dj => by
    unfold rMk at h
    obtain ⟨w, ws, Fa, Fb, rfl, r1, r2, dj0, f⟩ := h
    have ih := rMk.snoc (k := k) r r2 fun a y1 y2 => dj a ((f a).2 (.inr y1)) y2
    show rMk K ((x, m0) :: (ks ++ [(k, m)])) ((x, w) :: (ws ++ [(k, v)])) H _
    unfold rMk
    refine ⟨w, _, Fa, _, rfl, r1, ih, fun a y1 y2 => y2.elim (dj0 a y1) (dj a ((f a).2 (.inl y1))), fun a => ⟨fun z => ?_, fun z => ?_⟩⟩
    · rcases z with z | z
      · exact ((f a).1 z).imp id .inl
      · exact .inr (.inr z)
    · rcases z with z | z | z
      · exact .inl ((f a).2 (.inl z))
      · exact .inl ((f a).2 (.inr z))
      · exact .inr z
section
variable {X : Cx} {C : Cn} {Γ Γ1 Γ2 Γ3 Γ' : Ctx} {Ts Hs : List T} {e a b c nm : Expr} {pos p : Pos} {i j : Nat} {d : D} {m : M} {ks : List (Key × M)} {x : Key}
/-- x[k] = e, e a datum -/
theorem s_putD (hu : X.A.units + 64 < cLine) (j : Nat) (hn : PE X nm (tVar j)) (he : EE X C Γ Hs e Γ1 (.im d)) (hj : Γ1[j]? = some (some (.dk ks))) (hb : EE X C Γ1 (Hs ++ [.im d] ++ [.al j]) b Γ1 (.im (Sp1.k x).d)) (hl : ks.length < sizeLine) {p' : Pos}
    (hs : swapsWith e (some (.Subscript nm b p')) pos.line X.env = pure false := by rfl) : S1 X C Hs Γ (.Assign [.Subscript nm b p'] e pos) (.nx (Γ1.set j (some (.dk (putM ks x (.im d)))))) :=
  (ps_dput (by omega) (ee_al (C := C) (Γ := Γ1) (Ts := Hs ++ [.im d]) j hn hj) hb he hs).wk fun σ H D ⟨⟨hs, h⟩, q⟩ => ⟨hs, h, fun v H1 h1 => ⟨hs ++ [v], h1, fun y H2 h2 => ⟨_, h2, fun z H3 h3 => by
    have ez := Sp1.rd h3.topIm
    subst ez
    obtain ⟨F, ⟨hσ, _⟩, _⟩ := h3.pop.top
    have rv := h3.pop.pop.topIm
    have hA := h3.pop.pop.pop
    obtain ⟨w, F1, hw, r, chg⟩ := hA.slot hj
    rw [hσ] at hw
    cases hw
    unfold rM at r
    obtain ⟨a, kvs, F0, rfl, ho, rk, hn0, f⟩ := r
    refine ⟨a, _, rfl, DPut.k (k := x) ho (by rw [rk.len]; exact hl), q σ hs _ ?_⟩
    have mu : Mut (H3 a) := by rw [ho]; trivial
    have tf : TF H3 (upd H3 a (.dK (putK kvs x v))) := TF.write mu
    have put : ∃ F', rMk C.K (putM ks x (.im d)) (putK kvs x v) H3 F' ∧ ∀ b, F' b → F0 b := by
      unfold putM putK
      rw [← getM_val (k := x) rk, ← valV_any]
      by_cases z : (kvs.any fun kv => decide (kv.1 = x)) = true
      · rw [if_pos z, if_pos z]
        exact rk.map rv
      · rw [if_neg z, if_neg z]
        exact ⟨_, rMk.snoc (G := e0) (by unfold rM; exact ⟨rv, fun _ y => y⟩) rk Dj.e0r, fun b y => y.elim id fun y => y.elim⟩
    obtain ⟨F', rp, n'⟩ := put
    refine chg _ _ (fun b => b = a ∨ F' b) tf (fun b nb _ => upd_ne fun y => nb ((f b).2 (.inl y))) ?_ fun b y => .inl ((f b).2 (y.imp id (n' b)))
    unfold rM
    exact ⟨a, _, F', rfl, upd_same, rMk.st tf (fun b y => upd_ne fun y2 => hn0 (n' a (y2 ▸ y))) rp, fun y => hn0 (n' a y), fun b => Iff.rfl⟩⟩⟩⟩
end
end RL

set_option maxHeartbeats 2000000
/-! RL14: displays of dicts and of lists of what may change -/
namespace RL
open PySem L2

theorem mergeK_nodup : ∀ {kvs acc : List (Key × V)}, (kvs.map (·.1)).Nodup → (∀ k ∈ kvs.map (·.1), valV acc k = none) → mergeK acc kvs = acc ++ kvs
  | [], acc, _, _ => by simp [mergeK]
  | (k, v) :: kvs, acc, h, g => by
    rw [List.map_cons, List.nodup_cons] at h
    have h0 : valV acc k = none := g k (by simp)
    show mergeK (putK acc k v) kvs = _
    rw [putK_new v h0, mergeK_nodup h.2]
    · simp
    · intro x hx
      have ne : x ≠ k := fun e => h.1 (e ▸ hx)
      rw [valV_snoc k x v acc h0, if_neg ne]
      exact g x (by simp [hx])
section
variable {K : PySem.W.Frag} {H : Hp}
theorem rMk.of : ∀ {kn : List Key} {ms : List M} {us : List V} {F : FS}, rMs K ms us H F → kn.length = ms.length → rMk K (kn.zip ms) (kn.zip us) H F
  | [], [], us, F, h, _ => by
    unfold rMs at h
    show rMk K [] [] H F
    unfold rMk
    exact ⟨rfl, h.2⟩
  | k :: kn, [], us, F, h, e => by simp at e
  | [], m :: ms, us, F, h, e => by simp at e
  | k :: kn, m :: ms, us, F, h, e => by
    unfold rMs at h
    obtain ⟨w, ws, Fa, Fb, rfl, r1, r2, dj, f⟩ := h
    show rMk K ((k, m) :: kn.zip ms) ((k, w) :: kn.zip ws) H F
    unfold rMk
    exact ⟨w, _, Fa, Fb, rfl, r1, rMk.of r2 (by simpa using e), dj, f⟩
end
section
variable {X : Cx} {C : Cn} {Γ Γ1 Γ2 Γ3 Γ' : Ctx} {Ts Hs : List T} {e a b c nm : Expr} {es : List Expr} {pos p : Pos} {i j : Nat} {d : D} {m : M} {ms : List M} {kn : List Key} {keys : List (Option Expr)} {vals : List Expr}
theorem blob_own {σ : L2.St} {vs us : List V} {H : Hp} (h : As C Γ (Ts ++ ms.map T.own) σ (vs ++ us) H) (hl : us.length = ms.length) : ∃ fp G, AsB C Γ Ts σ vs ms us H fp G := by
  obtain ⟨fp, G, B, _⟩ := As.blob (ts := ms.map T.own) (ms := ms) (by simp [T.mo, Function.comp_def]) (by simpa using hl) h
  exact ⟨fp, G, B⟩
/-- the pairs of a display -/
def EPs (X : Cx) (C : Cn) (pos : Pos) (Γ : Ctx) (Ts : List T) (keys : List (Option Expr)) (vals : List Expr) (Γ' : Ctx) (kn : List Key) (ms : List M) : Prop :=
  ∃ trs : List (TE × TE), PPs X pos keys vals trs ∧ keys.length = kn.length ∧ vals.length = kn.length ∧ ms.length = kn.length ∧ keys.all (·.isSome) = true ∧
    ∀ σ H vs (Q : List (V × V) → Hp → Prop), As C Γ Ts σ vs H → (∀ us H', us.length = kn.length → As C Γ' (Ts ++ ms.map T.own) σ (vs ++ us) H' → Q ((kn.zip us).map fun kv => (kV kv.1, kv.2)) H') → tPairs trs σ H Q
theorem eps_nil : EPs X C pos Γ Ts [] [] Γ [] [] := ⟨[], pps_nil, rfl, rfl, rfl, rfl, fun σ H vs Q h q => q [] H rfl (by simpa using h)⟩
theorem eps_cons {k : Key} {ke : Expr} (hk : EE X C Γ Ts ke Γ (.im (Sp1.k k).d)) (hv : EE X C Γ Ts e Γ1 (.own m)) (hr : EPs X C pos Γ1 (Ts ++ [.own m]) keys vals Γ2 kn ms) : EPs X C pos Γ Ts (some ke :: keys) (e :: vals) Γ2 (k :: kn) (m :: ms) := by
  obtain ⟨trs, h, lk, lv, lm, all, w⟩ := hr
  refine ⟨_, pps_cons hk hv h, by simp [lk], by simp [lv], by simp [lm], by simpa using all, fun σ H vs Q h q => ?_⟩
  refine ⟨vs, h, fun x H1 h1 => ?_⟩
  have ex := Sp1.rd h1.topIm
  subst ex
  refine ⟨vs, h1.pop, fun y H2 h2 => w σ H2 (vs ++ [y]) _ h2 fun us H3 hl h3 => ?_⟩
  exact q (y :: us) H3 (by simp [hl]) (by simpa using h3)
/-- {k: e, ..} -/
theorem ee_dsp (h : EPs X C pos Γ (Ts ++ [.own (.dk [])]) keys vals Γ1 kn ms) (h0 : keys ≠ []) (h15 : kn.length ≤ 15) (hd : kn.Nodup) : EE X C Γ Ts (.Dict keys vals pos) Γ1 (.own (.dk (kn.zip ms))) := by
  obtain ⟨trs, hp, lk, lv, lm, all, w⟩ := h
  refine (pe_disp hp all (lk.trans lv.symm) h0 (by omega)).wk fun σ H Q ⟨vs, h, q⟩ => fun p hp => ?_
  have h1 : As C Γ (Ts ++ [.own (.dk [])]) σ (vs ++ [.ref p]) (upd H p (.dK [])) := h.push (Ext.new hp) (t := .own (.dk [])) (F := fun a => a = p) (by
    show rM _ _ _ _ _
    unfold rM
    exact ⟨p, [], e0, rfl, upd_same, by unfold rMk; exact ⟨rfl, fun _ z => z⟩, fun z => z, fun b => ⟨.inl, fun z => z.elim id fun y => y.elim⟩⟩) (fun a e => by rw [e]; exact hp) fun a e => by rw [e, upd_same]; trivial
  refine w σ _ _ _ h1 fun us H2 hl h2 => ?_
  have h3 : As C Γ1 (Ts ++ (M.dk [] :: ms).map T.own) σ (vs ++ (.ref p :: us)) H2 := by simpa using h2
  obtain ⟨fp, G, B⟩ := blob_own h3 (by simp [hl, lm])
  have r := B.r
  unfold rMs at r
  obtain ⟨w1, ws, F1, F2, ee, r1, r2, dj, f⟩ := r
  cases ee
  unfold rM at r1
  obtain ⟨a, kvs0, F0, ea, ho, rk0, hn0, f0⟩ := r1
  cases ea
  unfold rMk at rk0
  obtain ⟨rfl, nf0⟩ := rk0
  have hF1 : F1 p := (f0 p).2 (.inl rfl)
  have mu : Mut (H2 p) := by rw [ho]; trivial
  have tf : TF H2 (upd H2 p (.dK (kn.zip us))) := TF.write mu
  have nd : ((kn.zip us).map (·.1)) = kn := by
    rw [List.map_fst_zip]
    omega
  refine ⟨ho, kn.zip us, rfl, by rw [List.length_zip]; omega, ?_⟩
  rw [mergeK_nodup (by rw [nd]; exact hd) fun _ _ => valV_nil, List.nil_append]
  have B2 := B.chg (H' := upd H2 p (.dK (kn.zip us))) (G' := G) (ms' := [.dk (kn.zip ms)]) (us' := [.ref p]) (fun a o e ng => (upd_ne fun z => ng (by subst z; exact (f a).2 (.inl hF1))).trans e) (by
    unfold rMs
    refine ⟨_, [], G, e0, rfl, ?_, by unfold rMs; exact ⟨rfl, fun _ z => z⟩, Dj.e0r, fun a => ⟨.inl, fun z => z.elim id fun y => y.elim⟩⟩
    unfold rM
    refine ⟨p, _, F2, rfl, upd_same, rMk.st tf (fun b y => upd_ne fun z => dj p hF1 (z ▸ y)) (rMk.of r2 lm.symm), fun y => dj p hF1 y, fun b => ⟨fun y => ?_, fun y => ?_⟩⟩
    · rcases (f b).1 y with y | y
      · exact .inl (((f0 b).1 y).elim id fun z => absurd z (nf0 b))
      · exact .inr y
    · rcases y with y | y
      · subst y; exact (f b).2 (.inl hF1)
      · exact (f b).2 (.inr y)) fun a y => .inl y
  obtain ⟨fq, G2, B3⟩ := B2.uncons
  exact q _ _ B3.as
/-- [e, ..] of what may change -/
theorem ee_ll (h : EA X C Γ Ts es Γ1 (ms.map T.own)) (hl : ms.length ≤ 1000) : EE X C Γ Ts (.List es pos) Γ1 (.own (.ll ms)) := (pe_lst h).wk fun σ H Q ⟨vs, h, q⟩ => ⟨vs, h, fun us H1 l h1 => by
  have l' : us.length = ms.length := by simpa using l
  refine ⟨Nat.le_trans (by omega) (show 1000 ≤ sizeLine by decide), fun p hp => ?_⟩
  obtain ⟨fp, G, B⟩ := blob_own h1 l'
  have ext : Ext H1 (upd H1 p (.lst us)) := Ext.new hp
  have B2 := B.chg (H' := upd H1 p (.lst us)) (G' := fun b => b = p ∨ G b) (ms' := [.ll ms]) (us' := [.ref p]) (fun a o e ng => ext a o e) (by
    have np : ¬ G p := fun y => by
      have := rMs.mut B.r y
      rw [hp] at this
      exact this
    unfold rMs
    refine ⟨_, [], _, e0, rfl, ?_, by unfold rMs; exact ⟨rfl, fun _ z => z⟩, Dj.e0r, fun a => ⟨.inl, fun z => z.elim id fun y => y.elim⟩⟩
    unfold rM
    exact ⟨p, _, G, rfl, upd_same, rMs.st ext.tf (fun b y => upd_ne fun z => np (z ▸ y)) B.r, np, fun b => Iff.rfl⟩) fun a y => y.elim (fun z => .inr (z ▸ hp)) .inl
  obtain ⟨fq, G2, B3⟩ := B2.uncons
  exact q _ _ B3.as⟩
end
end RL

set_option maxHeartbeats 2000000
/-! RL15: locking a list, rules over typed data, guards of mirrors -/
namespace RL
open PySem L2

theorem bsplit {α β : Type} {o : Option α} {f : α → Option β} {r : β} (h : o.bind f = some r) : ∃ a, o = some a ∧ f a = some r := Option.bind_eq_some_iff.mp h
def gd (c : Bool) : Option Unit := if c = true then some () else none
theorem gd_t {c : Bool} {u : Unit} (h : gd c = some u) : c = true := by
  unfold gd at h
  by_cases e : c = true
  · exact e
  · rw [if_neg e] at h; cases h
theorem gd_d {p : Prop} [Decidable p] {u : Unit} (h : gd (decide p) = some u) : p := of_decide_eq_true (gd_t h)
theorem gd_ok {c : Bool} (h : c = true) : gd c = some () := if_pos h
instance {i j : Int} : Decidable (CMul i j) := by unfold CMul; infer_instance
instance {i j : Int} : Decidable (CDivW i j) := by unfold CDivW; infer_instance

/-! ### a thing is locked -/
theorem pe_lock {X : Cx} {e : Expr} {te : TE} (h : PE X e te) : PE X e (fun σ H Q => te σ H fun v H1 => ∃ a u, v = .ref a ∧ H1 a = some u ∧ Mut (some u) ∧ ∀ od, Q v (upd H1 a (.frz od u))) := ⟨fun pins s σ H Q I q =>
  wpAny_mono (h.run pins s σ H _ I q) (fun w s' ⟨v, H1, I1, r, a, u, e1, e2, mu, k⟩ => by
    obtain ⟨od, I2⟩ := I1.lock e2 mu
    exact ⟨v, _, I2, r, k od⟩) fun _ _ z => z⟩
section
variable {X : Cx} {C : Cn} {Γ Γ1 Γ2 Γ3 Γ' : Ctx} {Ts Hs : List T} {t t1 t2 t3 : T} {ts : List T} {e a b c tg iter : Expr} {es rest : List Expr} {pos p p2 nm apos cpos : Pos} {nme : Expr} {i j : Nat} {d d1 d2 d3 : D} {ds ds' : List D} {m : M} {b1 b2 k : Bool} {α β : Type} {enc : α → D} {xs ys : List α} {x y : α}
theorem ee_lock (h : EE X C Γ Ts e Γ1 (.own (.li ds))) : EE X C Γ Ts e Γ1 (.im (.lst ds)) := (pe_lock h).wk fun σ H Q ⟨vs, h, q⟩ => ⟨vs, h, fun v H1 h1 => by
  obtain ⟨F, r, up⟩ := h1.top
  have r : rM C.K (.li ds) v H1 F := r
  unfold rM at r
  obtain ⟨a, us, rfl, hl, rd, hF⟩ := r
  have mu : Mut (some (HO.lst us)) := trivial
  refine ⟨a, _, rfl, hl, mu, fun od => q _ _ ?_⟩
  have tf : TF H1 (upd H1 a (.frz od (.lst us))) := TF.write (by rw [hl]; exact mu)
  refine up (.im (.lst ds)) _ _ e0 tf (fun b nb _ => upd_ne fun z => nb ((hF b).2 z)) ?_ (fun b z => z.elim) fun b z => z.elim
  show rM _ _ _ _ _
  unfold rM
  refine ⟨?_, fun _ z => z⟩
  unfold rD
  exact ⟨a, us, rfl, .inl ⟨od, upd_same⟩, rd.tf tf⟩⟩
/-! ### typed lists -/
theorem ee_appendE (j : Nat) (hn : PE X nme (tVar j)) (hj : Γ[j]? = some (some (.li ds'))) (h1 : EE X C Γ (Ts ++ [.al j]) e Γ1 (.im (enc x))) (hj1 : Γ1[j]? = some (some (.li (xs.map enc)))) (hl : xs.length < sizeLine)
    (hbase : attributeBase nme "append" X.env (eval nme X.env) = eval nme X.env := by rfl)
    (hfew : ((backTo cpos (starEach [e] X.env)).all (fun x => !x.1) && (backToKw cpos (keywordEach [] X.env)).all (fun x => x.1.isSome)
      && decide ([e].length + ([] : List Keyword).length + (if ([] : List Keyword).isEmpty then 0 else 1) < 30)) = true := by rfl)
    (hline : (apos.endLine == cpos.line) = true := by rfl) (hs : starEach [e] X.env = (false, eval e X.env) :: starEach [] X.env := by rfl) (hplain : (backTo cpos (starEach [] X.env)).any (·.1) = false := by rfl) :
    EE X C Γ Ts (.Call (.Attribute nme "append" apos) [e] [] cpos) (Γ1.set j (some (.li ((xs ++ [x]).map enc)))) (.im .non) := by
  rw [List.map_append]
  exact ee_append j hn hj h1 hj1 (by rw [List.length_map]; exact hl) hbase hfew hline hs hplain
theorem ee_popE (j : Nat) (hn : PE X nme (tVar j)) (hj : Γ[j]? = some (some (.li (xs.map enc)))) (hd : xs.getLast? = some x)
    (hbase : attributeBase nme "pop" X.env (eval nme X.env) = eval nme X.env := by rfl) (hline : (apos.endLine == cpos.line) = true := by rfl) :
    EE X C Γ Ts (.Call (.Attribute nme "pop" apos) [] [] cpos) (Γ.set j (some (.li (xs.dropLast.map enc)))) (.im (enc x)) := by
  rw [List.map_dropLast]
  exact ee_pop j hn hj (by rw [List.getLast?_map, hd] <;> rfl) hbase hline
theorem ee_extendE (j : Nat) (hn : PE X nme (tVar j)) (hj : Γ[j]? = some (some (.li ds'))) (h1 : EE X C Γ (Ts ++ [.al j]) e Γ1 t) (hj1 : Γ1[j]? = some (some (.li (xs.map enc)))) (s : SrcS Γ1 t (ys.map enc)) (hl : xs.length + ys.length ≤ sizeLine)
    (hbase : attributeBase nme "extend" X.env (eval nme X.env) = eval nme X.env := by rfl)
    (hfew : ((backTo cpos (starEach [e] X.env)).all (fun x => !x.1) && (backToKw cpos (keywordEach [] X.env)).all (fun x => x.1.isSome)
      && decide ([e].length + ([] : List Keyword).length + (if ([] : List Keyword).isEmpty then 0 else 1) < 30)) = true := by rfl)
    (hline : (apos.endLine == cpos.line) = true := by rfl) (hs : starEach [e] X.env = (false, eval e X.env) :: starEach [] X.env := by rfl) (hplain : (backTo cpos (starEach [] X.env)).any (·.1) = false := by rfl) :
    EE X C Γ Ts (.Call (.Attribute nme "extend" apos) [e] [] cpos) (Γ1.set j (some (.li ((xs ++ ys).map enc)))) (.im .non) := by
  rw [List.map_append]
  exact ee_extend j hn hj h1 hj1 s (by rw [List.length_map, List.length_map]; exact hl) hbase hfew hline hs hplain
theorem atI_map {f : α → β} {n : Int} (h : atI xs n = some x) : atI (xs.map f) n = some (f x) := by
  unfold atI at h ⊢
  rw [List.length_map]
  cases q : ixN xs.length n with
  | none => rw [q] at h; cases h
  | some j =>
    rw [q] at h
    have h : xs[j]? = some x := h
    show (xs.map f)[j]? = _
    rw [List.getElem?_map, h] <;> rfl
theorem ee_ixLE {n : Int} (h1 : EE X C Γ Ts a Γ1 t) (h2 : EE X C Γ1 (Ts ++ [t]) b Γ2 (.im (.int n))) (s : Src Γ2 t (xs.map enc)) (h : atI xs n = some x) (hs : PlainIx b := by exact fun _ _ => rfl) (hK : X.K = C.K := by rfl) : EE X C Γ Ts (.Subscript a b pos) Γ2 (.im (enc x)) := ee_ixL h1 h2 s (atI_map h) hs hK
theorem ee_ixTE {n : Int} (h1 : EE X C Γ Ts a Γ1 (.im (.tup (xs.map enc)))) (h2 : EE X C Γ1 (Ts ++ [.im (.tup (xs.map enc))]) b Γ2 (.im (.int n))) (h : atI xs n = some x) (hs : PlainIx b := by exact fun _ _ => rfl) (hK : X.K = C.K := by rfl) : EE X C Γ Ts (.Subscript a b pos) Γ2 (.im (enc x)) := ee_ixT h1 h2 (atI_map h) hs hK
theorem ee_slLE {lo hi : Option Expr} {l u : Option Int} (h1 : EE X C Γ Ts a Γ1 t) (h2 : EP X C Γ1 (Ts ++ [t]) lo Γ2 l) (h3 : EP X C Γ2 (Ts ++ [t]) hi Γ3 u) (s : Src Γ3 t (xs.map enc)) (hK : X.K = C.K := by rfl) : EE X C Γ Ts (.Subscript a (.Slice lo hi none p2) pos) Γ3 (.own (.li ((cutL xs l u).map enc))) := by
  rw [← cutL_map]
  exact ee_slL h1 h2 h3 s hK
theorem ee_slTE {lo hi : Option Expr} {l u : Option Int} (h1 : EE X C Γ Ts a Γ1 (.im (.tup (xs.map enc)))) (h2 : EP X C Γ1 (Ts ++ [.im (.tup (xs.map enc))]) lo Γ2 l) (h3 : EP X C Γ2 (Ts ++ [.im (.tup (xs.map enc))]) hi Γ3 u) (hK : X.K = C.K := by rfl) : EE X C Γ Ts (.Subscript a (.Slice lo hi none p2) pos) Γ3 (.im (.tup ((cutL xs l u).map enc))) := by
  rw [← cutL_map]
  exact ee_slT h1 h2 h3 hK
theorem ee_revLE {q1 q2 q3 : Pos} {kk : Nat} (h1 : EE X C Γ Ts a Γ1 t) (s : Src Γ1 t (xs.map enc)) (hK : X.K = C.K := by rfl) : EE X C Γ Ts (.Subscript a (.Slice none none (some (.UnaryOp .USub (.Constant (.int 1) kk q1) q2)) q3) pos) Γ1 (.own (.li (xs.reverse.map enc))) := by
  rw [List.map_reverse]
  exact ee_revL h1 s hK
theorem ee_catE (h1 : EE X C Γ Ts a Γ1 t1) (h2 : EE X C Γ1 (Ts ++ [t1]) b Γ2 t2) (s1 : SrcS Γ2 t1 (xs.map enc)) (s2 : SrcS Γ2 t2 (ys.map enc)) (hl : xs.length + ys.length ≤ sizeLine) : EE X C Γ Ts (.BinOp a .Add b pos) Γ2 (.own (.li ((xs ++ ys).map enc))) := by
  rw [List.map_append]
  exact ee_cat h1 h2 s1 s2 (by rw [List.length_map, List.length_map]; exact hl)
theorem ee_catTE (h1 : EE X C Γ Ts a Γ1 (.im (.tup (xs.map enc)))) (h2 : EE X C Γ1 (Ts ++ [.im (.tup (xs.map enc))]) b Γ2 (.im (.tup (ys.map enc)))) (hl : xs.length + ys.length ≤ sizeLine) (hK : X.K = C.K := by rfl) : EE X C Γ Ts (.BinOp a .Add b pos) Γ2 (.im (.tup ((xs ++ ys).map enc))) := by
  rw [List.map_append]
  exact ee_catT h1 h2 (by rw [List.length_map, List.length_map]; exact hl) hK
theorem ee_lenLE (hm : X.mg "len" = none) (h : EE X C Γ Ts e Γ1 t) (s : Src Γ1 t (xs.map enc)) (hg : Gl X "len" := by rfl) (hK : X.K = C.K := by rfl) (he : starEach [e] X.env = (false, eval e X.env) :: starEach [] X.env := by rfl) (hpl : (backTo pos (starEach [] X.env)).any (·.1) = false := by rfl) : EE X C Γ Ts (.Call (.Name "len" nm) [e] [] pos) Γ1 (.im (.int xs.length)) := by
  have z := ee_lenL (nm := nm) (pos := pos) hm h s hg hK he hpl
  rw [List.length_map] at z
  exact z
theorem ee_lenTE (hm : X.mg "len" = none) (h : EE X C Γ Ts e Γ1 (.im (.tup (xs.map enc)))) (hg : Gl X "len" := by rfl) (hK : X.K = C.K := by rfl) (he : starEach [e] X.env = (false, eval e X.env) :: starEach [] X.env := by rfl) (hpl : (backTo pos (starEach [] X.env)).any (·.1) = false := by rfl) : EE X C Γ Ts (.Call (.Name "len" nm) [e] [] pos) Γ1 (.im (.int xs.length)) := by
  have z := ee_lenT (nm := nm) (pos := pos) hm h hg hK he hpl
  rw [List.length_map] at z
  exact z
theorem oks_map {l : List α} (f : α → D) (h : ∀ x ∈ l, (f x).ok = true) : oks (l.map f) = true := by
  rw [oks_all, List.all_eq_true]
  intro d hd
  obtain ⟨x, hx, rfl⟩ := List.mem_map.mp hd
  exact h x hx
theorem et_eqNilE (hu : X.A.units + 64 < cLine) (h1 : EE X C Γ Ts a Γ1 t1) (s : Src Γ1 t1 (xs.map enc)) (ho : oks (xs.map enc) = true) {q : Pos} (hK : X.K = C.K := by rfl) : ET X C Γ Ts (.Compare a [.Eq] [.List [] q] pos) Γ1 xs.isEmpty := by
  have z := et_eqNil (q := q) (pos := pos) hu h1 s ho hK
  rw [List.isEmpty_map] at z
  exact z
theorem et_neNilE (hu : X.A.units + 64 < cLine) (h1 : EE X C Γ Ts a Γ1 t1) (s : Src Γ1 t1 (xs.map enc)) (ho : oks (xs.map enc) = true) {q : Pos} (hK : X.K = C.K := by rfl) : ET X C Γ Ts (.Compare a [.NotEq] [.List [] q] pos) Γ1 (!xs.isEmpty) := by
  have z := et_neNil (q := q) (pos := pos) hu h1 s ho hK
  rw [List.isEmpty_map] at z
  exact z
/-- the items with their places -/
def numL (xs : List α) : List (Int × α) := xs.mapIdx fun i x => ((i : Int), x)
def encI (enc : α → D) (p : Int × α) : D := .tup [.int p.1, enc p.2]
theorem enumD_map : enumD (xs.map enc) = (numL xs).map (encI enc) := by
  unfold enumD numL encI
  apply List.ext_getElem?
  intro i
  simp only [List.getElem?_mapIdx, List.getElem?_map]
  cases xs[i]? <;> rfl
theorem ee_pow {n n' : Int} (hc : CPow n n') (h1 : EE X C Γ Ts a Γ1 (.im (.int n))) (h2 : EE X C Γ1 (Ts ++ [.im (.int n)]) b Γ2 (.im (.int n'))) : EE X C Γ Ts (.BinOp a .Pow b pos) Γ2 (.im (.int (n ^ n'.toNat))) := ee_op op_pow h1 h2 (r2s_intC hc fun H => by unfold rD; rfl)
/-- (a, b) = e -/
theorem s_unp {es : List Expr} {kk : Nat} {J : List Nat} (he : EE X C Γ Hs e Γ1 (.im d)) (hg : GT X C Hs Γ1 (.Tuple es kk p) d Γ2 J) (hs : swapsWithSole [.Tuple es kk p] e pos.line X.env = pure false := by rfl) (hw : swappedStores [.Tuple es kk p] e X.env = pure none := by rfl)
    (h1 : (assignEach [.Tuple es kk p] X.env).map (·.2) = [assign (.Tuple es kk p) X.env] := by rfl) : S1 X C Hs Γ (.Assign [.Tuple es kk p] e pos) (.nx Γ2) :=
  (ps_asg he hg hs hw h1).wk fun σ H D ⟨⟨hs, h⟩, q⟩ => ⟨hs, h, fun v H1 h1 => ⟨hs, h1.pop, h1.topIm, fun σ' ag h2 => q σ' hs H1 h2⟩⟩
end
/-! ### data compared and shown, in mirrors -/
def eqDD (d e : D) : Option Bool := if (d.ok && e.ok && decide (min d.p.depth e.p.depth ≤ 64)) = true then some (PyData.eqv d.p e.p) else none
def shDD (d : D) : Option Str := if (d.ok && shows d.p) = true then some d.p.shown else none
section
variable {X : Cx} {C : Cn} {Γ Γ1 Γ2 Γ3 Γ' : Ctx} {Ts Hs : List T} {e a b : Expr} {pos nm : Pos} {d d1 d2 d3 : D} {k : Bool} {s : Str}
theorem et_eqDD (hu : X.A.units + 64 < cLine) (h1 : EE X C Γ Ts a Γ1 (.im d1)) (h2 : EE X C Γ1 (Ts ++ [.im d1]) b Γ2 (.im d2)) (h : eqDD d1 d2 = some k) (hK : X.K = C.K := by rfl) : ET X C Γ Ts (.Compare a [.Eq] [b] pos) Γ2 k := by
  unfold eqDD at h
  split at h
  next z =>
    simp only [Bool.and_eq_true, decide_eq_true_eq] at z
    cases h
    exact et_eqB hu h1 h2 (.im z.1.1) (.im z.1.2) z.2 rfl hK
  next => cases h
theorem et_neDD (hu : X.A.units + 64 < cLine) (h1 : EE X C Γ Ts a Γ1 (.im d1)) (h2 : EE X C Γ1 (Ts ++ [.im d1]) b Γ2 (.im d2)) (h : eqDD d1 d2 = some k) (hK : X.K = C.K := by rfl) : ET X C Γ Ts (.Compare a [.NotEq] [b] pos) Γ2 (!k) := by
  unfold eqDD at h
  split at h
  next z =>
    simp only [Bool.and_eq_true, decide_eq_true_eq] at z
    cases h
    exact et_neB hu h1 h2 (.im z.1.1) (.im z.1.2) z.2 rfl hK
  next => cases h
theorem ee_shDD (hG : X.A.guards = some []) (hu : X.A.units + 64 < cLine) (hm : X.mg "repr" = none) (h : EE X C Γ Ts e Γ1 (.im d)) (hs : shDD d = some s) (hg : Gl X "repr" := by rfl) (hK : X.K = C.K := by rfl) (he : starEach [e] X.env = (false, eval e X.env) :: starEach [] X.env := by rfl) (hpl : (backTo pos (starEach [] X.env)).any (·.1) = false := by rfl) : EE X C Γ Ts (.Call (.Name "repr" nm) [e] [] pos) Γ1 (.im (.str s)) := by
  unfold shDD at hs
  split at hs
  next z =>
    simp only [Bool.and_eq_true] at z
    cases hs
    exact ee_repr hG hu hm h (.im z.1) z.2 hg hK he hpl
  next => cases hs
end
end RL

set_option maxHeartbeats 2000000
/-! RL16: what the printed walks lean on -/
namespace RL
open PySem L2
theorem if_t {α : Type} {b : Bool} {x y : α} (h : b = true) : (if b = true then x else y) = x := if_pos h
theorem if_f {α : Type} {b : Bool} {x y : α} (h : b = false) : (if b = true then x else y) = y := by rw [h] <;> rfl
def Out.k {S R Q : Type} (o : Out S R) (f : S → Option Q) (g : R → Option Q) : Option Q := match o with
  | .rt r => g r
  | .nx s => f s
  | _ => none
abbrev eT2 {α β : Type} (f : α → D) (g : β → D) (p : α × β) : D := .tup [f p.1, g p.2]
abbrev eT3 {α β γ : Type} (f : α → D) (g : β → D) (h : γ → D) (p : α × β × γ) : D := .tup [f p.1, g p.2.1, h p.2.2]
abbrev eF2 {α β : Type} (f : α → D) (g : β → D) (p : α × β) : D := .lst [f p.1, g p.2]
abbrev eF3 {α β γ : Type} (f : α → D) (g : β → D) (h : γ → D) (p : α × β × γ) : D := .lst [f p.1, g p.2.1, h p.2.2]
abbrev eTL {α : Type} (f : α → D) (l : List α) : D := .tup (l.map f)
abbrev eFL {α : Type} (f : α → D) (l : List α) : D := .lst (l.map f)
def eO {α : Type} (f : α → D) : Option α → D
  | none => .non
  | some x => f x
abbrev eN (_ : Unit) : D := .non
abbrev eX (d : D) : D := d
/-- what drawing needs -/
structure Deck where
  great : List Int
  mix : Int
  turn : Int
abbrev Deck.m (d : Deck) : M := .dk [(.inr "great", .li (d.great.map D.int)), (.inr "se\x61l", .im (.int d.mix)), (.inr "turn", .im (.int d.turn))]
section
variable {X : Cx} {C : Cn} {Γ Γ1 Γ2 Γ3 Γ' : Ctx} {Ts Hs : List T} {e a b c : Expr} {pos : Pos} {i : Nat} {d : D} {ds : List D} {k : Bool} {st : Stmt} {n n' : Int}
theorem tests0 : PTs X [] (tr C Γ Ts Γ true) := pts_nil.wk fun σ H Q ⟨vs, h, q⟩ => q H h
theorem tests1 (h : ET X C Γ Ts c Γ1 k) : PTs X [c] (tr C Γ Ts Γ1 k) := pts_one h
/-- the list that a statement has laid into the slot i is locked -/
theorem s_lock (i : Nat) (h : S1 X C Hs Γ st (.nx Γ1)) (hi : Γ1[i]? = some (some (.li ds))) : S1 X C Hs Γ st (.nx (Γ1.set i (some (.im (.lst ds))))) := by
  have p : PS X st (fun D σ H => sr C Hs Γ (.nx Γ1) { D with nx := fun σ' H' => ∃ a u, H' a = some u ∧ Mut (some u) ∧ ∀ od, D.nx σ' (upd H' a (.frz od u)) } σ H) := ⟨fun pins s σ H D I q => by
    refine wpAny_mono (h.run pins s σ H _ I q) (fun fl s' r => ?_) fun _ _ z => z
    cases fl with
    | next =>
      obtain ⟨σ', H', I', a, u, e, mu, k⟩ := r
      obtain ⟨od, I2⟩ := I'.lock e mu
      exact ⟨σ', _, I2, k od⟩
    | ret u => exact r
    | brk => exact r
    | cont => exact r⟩
  refine p.wk fun σ H D ⟨h0, q⟩ => ⟨h0, fun σ' hs H1 h1 => ?_⟩
  obtain ⟨w, F, hw, r, up⟩ := h1.slot hi
  unfold rM at r
  obtain ⟨a, us, rfl, hl, rd, hF⟩ := r
  have mu : Mut (some (HO.lst us)) := trivial
  refine ⟨a, _, hl, mu, fun od => q σ' hs _ ?_⟩
  have tf : TF H1 (upd H1 a (.frz od (.lst us))) := TF.write (by rw [hl]; exact mu)
  refine up (.im (.lst ds)) _ e0 tf (fun b nb _ => upd_ne fun z => nb ((hF b).2 z)) ?_ fun b z => z.elim
  unfold rM
  refine ⟨?_, fun _ z => z⟩
  unfold rD
  exact ⟨a, us, rfl, .inl ⟨od, upd_same⟩, rd.tf tf⟩
theorem ee_le (h1 : EE X C Γ Ts a Γ1 (.im (.int n))) (h2 : EE X C Γ1 (Ts ++ [.im (.int n)]) b Γ2 (.im (.int n'))) : EE X C Γ Ts (.Compare a [.LtE] [b] pos) Γ2 (.im (.bl (decide (n ≤ n')))) := ee_cmp op_le (nomark _) h1 h2 (r2s_int fun H => by unfold rD; rfl)
theorem ee_gt (h1 : EE X C Γ Ts a Γ1 (.im (.int n))) (h2 : EE X C Γ1 (Ts ++ [.im (.int n)]) b Γ2 (.im (.int n'))) : EE X C Γ Ts (.Compare a [.Gt] [b] pos) Γ2 (.im (.bl (decide (n' < n)))) := ee_cmp op_gt (nomark _) h1 h2 (r2s_int fun H => by unfold rD; rfl)
theorem ee_ge (h1 : EE X C Γ Ts a Γ1 (.im (.int n))) (h2 : EE X C Γ1 (Ts ++ [.im (.int n)]) b Γ2 (.im (.int n'))) : EE X C Γ Ts (.Compare a [.GtE] [b] pos) Γ2 (.im (.bl (decide (n' ≤ n)))) := ee_cmp op_ge (nomark _) h1 h2 (r2s_int fun H => by unfold rD; rfl)
end
end RL

set_option maxHeartbeats 2000000
/-! RL17: another name becomes the thing itself, late -/
namespace RL
open PySem L2
theorem freeJ_nil {Ts : List T} : FreeJ [] Ts := fun _ h => nomatch h
theorem freeJ_cons {i : Nat} {J : List Nat} {Ts : List T} (h : Free i Ts) (g : FreeJ J Ts) : FreeJ (i :: J) Ts := fun x hx => by
  rcases List.mem_cons.mp hx with z | z
  · subst z; exact h
  · exact g x z
theorem bare_nil {Γ : Ctx} : Bare [] Γ := fun _ h => nomatch h
theorem bare_cons {i : Nat} {J : List Nat} {Γ : Ctx} (h : Γ[i]? = some none) (g : Bare J Γ) : Bare (i :: J) Γ := fun x hx m => by
  rcases List.mem_cons.mp hx with z | z
  · subst z; rw [h]; intro e; cases e
  · exact g x z m
theorem pnJ {pin : List (Nat × V)} {ios J : List Nat} (hpin : ∀ p ∈ pin, p.1 ∈ ios) (h : ∀ i ∈ J, i ∉ ios) : ∀ p ∈ pin, p.1 ∉ J := fun p hp z => h _ z (hpin p hp)
theorem np1 {pin : List (Nat × V)} {ios : List Nat} {i : Nat} (hpin : ∀ p ∈ pin, p.1 ∈ ios) (h : i ∉ ios) : ∀ p ∈ pin, p.1 ≠ i := fun p hp e => h (e ▸ hpin p hp)
section
variable {X : Cx} {C : Cn} {Γ Γ1 Γ2 : Ctx} {Ts : List T} {ts : List T} {es : List Expr} {j : Nat} {m : M} {σ : L2.St} {vs : List V} {H : Hp}
theorem As.late (h : As C Γ (Ts ++ (.al j :: ts)) σ vs H) (hj : Γ[j]? = some (some m)) : As C (Γ.set j none) (Ts ++ (.tk j m :: ts)) σ vs H := by
  obtain ⟨fp, W⟩ := h
  let n := Ts.length
  have nn : ∀ x : Nat, (Sum.inl x : Sum Nat Nat) ≠ .inr n := fun x z => nomatch z
  have at_n : (Ts ++ (T.al j :: ts))[n]? = some (.al j) := by simp [n]
  obtain ⟨v, hv, hσ, hn⟩ := W.tp n _ at_n
  obtain ⟨v2, hσ2, r⟩ := W.sl j m hj
  rw [hσ] at hσ2
  cases hσ2
  let fq : Sum Nat Nat → FS := fun y => if y = .inr n then fp (.inl j) else if y = .inl j then e0 else fp y
  have q0 : fq (.inr n) = fp (.inl j) := if_pos rfl
  have q1 : fq (.inl j) = e0 := (if_neg (nn j)).trans (if_pos rfl)
  have q2 : ∀ y, y ≠ .inl j → y ≠ .inr n → fq y = fp y := fun y h1 h2 => (if_neg h2).trans (if_neg h1)
  have le : ∀ y a, fq y a → (y = .inr n ∧ fp (.inl j) a) ∨ (y ≠ .inl j ∧ y ≠ .inr n ∧ fp y a) := fun y a ha => by
    by_cases h1 : y = .inr n
    · subst h1; rw [q0] at ha; exact .inl ⟨rfl, ha⟩
    · by_cases h2 : y = .inl j
      · subst h2; rw [q1] at ha; exact ha.elim
      · rw [q2 y h2 h1] at ha; exact .inr ⟨h2, h1, ha⟩
  have ex : ∀ y a, fq y a → ∃ x, fp x a := fun y a ha => by
    rcases le y a ha with ⟨_, h⟩ | ⟨_, _, h⟩
    · exact ⟨_, h⟩
    · exact ⟨_, h⟩
  refine ⟨fq, by simp [W.lg], by have := W.ln; simp at this ⊢; exact this, fun i mi hi => ?_, fun k t hk => ?_, fun x y hxy a ha hb => ?_, fun x a ha => ?_, fun x a ha => ?_, W.fr, W.pn⟩
  · by_cases e : i = j
    · subst e
      have hl : i < Γ.length := (List.getElem?_eq_some_iff.mp hj).1
      rw [List.getElem?_set_self hl] at hi
      cases hi
    · rw [List.getElem?_set_ne (Ne.symm e)] at hi
      obtain ⟨w, r1, r2⟩ := W.sl i mi hi
      exact ⟨w, r1, by rw [q2 (.inl i) (fun z => e (Sum.inl.inj z)) (nn i)]; exact r2⟩
  · by_cases e : k = n
    · subst e
      have hk' : (Ts ++ (T.tk j m :: ts))[n]? = some (.tk j m) := by simp [n]
      rw [hk'] at hk
      cases hk
      exact ⟨v, hv, hσ, by rw [q0]; exact r⟩
    · have hk2 : (Ts ++ (T.al j :: ts))[k]? = some t := by
        by_cases hl : k < n
        · rw [List.getElem?_append_left hl] at hk ⊢
          exact hk
        · have hl2 : n ≤ k := by omega
          rw [List.getElem?_append_right hl2] at hk ⊢
          obtain ⟨k', hk'⟩ : ∃ k', k - Ts.length = k' + 1 := ⟨k - n - 1, by show k - n = _; omega⟩
          rw [hk', List.getElem?_cons_succ] at hk ⊢
          exact hk
      obtain ⟨w, r1, r2⟩ := W.tp k t hk2
      exact ⟨w, r1, by rw [q2 (.inr k) (fun z => nomatch z) (fun z => e (Sum.inr.inj z))]; exact r2⟩
  · rcases le x a ha with ⟨h1, h2⟩ | ⟨h1, h2, h3⟩
    · rcases le y a hb with ⟨g1, g2⟩ | ⟨g1, g2, g3⟩
      · exact hxy (h1.trans g1.symm)
      · exact W.dj _ _ (Ne.symm g1) a h2 g3
    · rcases le y a hb with ⟨g1, g2⟩ | ⟨g1, g2, g3⟩
      · exact W.dj _ _ h1 a h3 g2
      · exact W.dj x y hxy a h3 g3
  · obtain ⟨y, h⟩ := ex x a ha
    exact W.sn y a h
  · obtain ⟨y, h⟩ := ex x a ha
    exact W.mu y a h
theorem ea_late (h : EA X C Γ Ts es Γ1 (.al j :: ts)) (hj : Γ1[j]? = some (some m) := by rfl) : EA X C Γ Ts es (Γ1.set j none) (.tk j m :: ts) := h.wk fun σ H Q ⟨vs, h, q⟩ => ⟨vs, h, fun us H1 l h1 => q us H1 (by simpa using l) (h1.late hj)⟩
end
end RL

set_option maxHeartbeats 2000000
/-! RL18: the deck of a law -/
namespace RL
open PySem L2
theorem ee_negc {X : Cx} {C : Cn} {Γ : Ctx} {Ts : List T} {pos q : Pos} {kk : Nat} {m : Int} : EE X C Γ Ts (.UnaryOp .USub (.Constant (.int m) kk q) pos) Γ (.im (.int (-m))) := (pe_un un_neg pe_int).wk fun σ H Q ⟨vs, h, q⟩ => ⟨m, rfl, q _ H (h.pushIm Ext.refl (by unfold rD; rfl))⟩
abbrev kGreat : Sp1 := .k (.inr "great")
abbrev kMix : Sp1 := .k (.inr "se\x61l")
abbrev kTurn : Sp1 := .k (.inr "turn")
theorem ne1 : ¬ (Sum.inr (Str.ofString "great") : Key) = Sum.inr (Str.ofString "se\x61l") := by intro e; injection e with e; revert e; decide
theorem ne2 : ¬ (Sum.inr (Str.ofString "great") : Key) = Sum.inr (Str.ofString "turn") := by intro e; injection e with e; revert e; decide
theorem ne3 : ¬ (Sum.inr (Str.ofString "se\x61l") : Key) = Sum.inr (Str.ofString "turn") := by intro e; injection e with e; revert e; decide
theorem Deck.great_sub {d : Deck} : (Deck.m d).sub kGreat = some (.li (d.great.map .int)) := by show getM _ _ = _; unfold getM; rw [if_pos rfl]
theorem Deck.mix_sub {d : Deck} : (Deck.m d).sub kMix = some (.im (.int d.mix)) := by show getM _ _ = _; unfold getM; rw [if_neg ne1]; unfold getM; rw [if_pos rfl]
theorem Deck.turn_sub {d : Deck} : (Deck.m d).sub kTurn = some (.im (.int d.turn)) := by show getM _ _ = _; unfold getM; rw [if_neg ne2]; unfold getM; rw [if_neg ne3]; unfold getM; rw [if_pos rfl]
theorem Deck.great_chg {d : Deck} {l : List Int} : (Deck.m d).chg kGreat (.li (l.map .int)) = Deck.m ⟨l, d.mix, d.turn⟩ := by show M.dk (updM _ _ _) = _; unfold updM; rw [if_pos rfl]
theorem Deck.turn_put {d : Deck} {t : Int} : M.dk (putM [(.inr "great", .li (d.great.map D.int)), (.inr "se\x61l", .im (.int d.mix)), (.inr "turn", .im (.int d.turn))] (.inr "turn") (.im (.int t))) = Deck.m ⟨d.great, d.mix, t⟩ := by
  have e : getM [(.inr "great", .li (d.great.map D.int)), (.inr "se\x61l", .im (.int d.mix)), (.inr "turn", .im (.int d.turn))] (.inr "turn") = some (.im (.int d.turn)) := Deck.turn_sub
  unfold putM
  rw [e]
  show M.dk (List.map _ _) = _
  simp only [List.map_cons, List.map_nil]
  rw [if_neg ne2, if_neg ne3, if_pos trivial]
section
variable {X : Cx} {C : Cn} {Γ Γ1 Γ2 : Ctx} {Ts Hs : List T} {nm e b : Expr} {pos p apos cpos : Pos} {d : Deck} {j : Nat} {x : Int} {k0 : Nat} {q : Pos}
theorem ee_dMix (hu : X.A.units + 64 < cLine) (j : Nat) (hn : PE X nm (tVar j)) (hj : Γ[j]? = some (some (Deck.m d)) := by rfl) : EE X C Γ Ts (.Subscript nm (.Constant (.str "se\x61l") k0 q) pos) Γ (.im (.int d.mix)) := ee_at j (sub_k hu) hn hj (ee_str (C := C)) Deck.mix_sub
theorem ee_dTurn (hu : X.A.units + 64 < cLine) (j : Nat) (hn : PE X nm (tVar j)) (hj : Γ[j]? = some (some (Deck.m d)) := by rfl) : EE X C Γ Ts (.Subscript nm (.Constant (.str "turn") k0 q) pos) Γ (.im (.int d.turn)) := ee_at j (sub_k hu) hn hj (ee_str (C := C)) Deck.turn_sub
section
variable {α : Type} {enc : α → D} {xs ys : List α} {x : α} {m m' : M} {s : Sp1} {r : R2}
/-- x[k] != [], over typed lists -/
theorem et_neNilZE (hu : X.A.units + 64 < cLine) (j : Nat) (S : SubR X s r) (hn : PE X nm (tVar j)) (hj : Γ[j]? = some (some m)) (hb : EE X C Γ (Ts ++ [.al j]) b Γ (.im s.d)) (e1 : m.sub s = some (.li (xs.map enc))) (ho : oks (xs.map enc) = true) {q1 : Pos} (hs : PlainIx b := by exact fun _ _ => rfl) (hK : X.K = C.K := by rfl) :
    ET X C Γ Ts (.Compare (.Subscript nm b p) [.NotEq] [.List [] q1] pos) Γ (!xs.isEmpty) := by
  have z := et_neNilZ (p := p) (pos := pos) (q1 := q1) hu j S hn hj hb e1 ho hs hK
  rw [List.isEmpty_map] at z
  exact z
theorem ee_popZE (j : Nat) (S : SubR X s r) (hn : PE X nm (tVar j)) (hj : Γ[j]? = some (some m)) (hb : EE X C Γ (Ts ++ [.al j]) b Γ (.im s.d)) (e1 : m.sub s = some (.li (xs.map enc))) (hd : xs.getLast? = some x) (hc : m.chg s (.li (xs.dropLast.map enc)) = m') (hs : PlainIx b := by exact fun _ _ => rfl)
    (hbase : attributeBase (.Subscript nm b p) "pop" X.env (eval (.Subscript nm b p) X.env) = eval (.Subscript nm b p) X.env := by rfl) (hline : (apos.endLine == cpos.line) = true := by rfl) :
    EE X C Γ Ts (.Call (.Attribute (.Subscript nm b p) "pop" apos) [] [] cpos) (Γ.set j (some m')) (.im (enc x)) := by
  rw [← hc, List.map_dropLast]
  exact ee_popZ j S hn hj hb e1 (by rw [List.getLast?_map, hd] <;> rfl) hs hbase hline
theorem ee_appZE (j : Nat) (S : SubR X s r) (hn : PE X nm (tVar j)) (hj : Γ[j]? = some (some m)) (hb : EE X C Γ (Ts ++ [.al j]) b Γ (.im s.d)) (e1 : m.sub s = some (.li (xs.map enc))) (he : EQ X C Γ e (enc x)) (hlen : xs.length < sizeLine) (hc : m.chg s (.li ((xs ++ [x]).map enc)) = m') (hs : PlainIx b := by exact fun _ _ => rfl)
    (hbase : attributeBase (.Subscript nm b p) "append" X.env (eval (.Subscript nm b p) X.env) = eval (.Subscript nm b p) X.env := by rfl)
    (hfew : ((backTo cpos (starEach [e] X.env)).all (fun x => !x.1) && (backToKw cpos (keywordEach [] X.env)).all (fun x => x.1.isSome)
      && decide ([e].length + ([] : List Keyword).length + (if ([] : List Keyword).isEmpty then 0 else 1) < 30)) = true := by rfl)
    (hline : (apos.endLine == cpos.line) = true := by rfl) (hst : starEach [e] X.env = (false, eval e X.env) :: starEach [] X.env := by rfl) (hplain : (backTo cpos (starEach [] X.env)).any (·.1) = false := by rfl) :
    EE X C Γ Ts (.Call (.Attribute (.Subscript nm b p) "append" apos) [e] [] cpos) (Γ.set j (some m')) (.im .non) := by
  rw [← hc, List.map_append]
  exact ee_appZ j S hn hj hb e1 he (by rw [List.length_map]; exact hlen) hs hbase hfew hline hst hplain
end
theorem s_putTurn (hu : X.A.units + 64 < cLine) (j : Nat) (hn : PE X nm (tVar j)) (he : EE X C Γ Hs e Γ1 (.im (.int x))) (hj : Γ1[j]? = some (some (Deck.m d))) {k1 : Nat} {p1 p' : Pos} (hb : EE X C Γ1 (Hs ++ [.im (.int x)] ++ [.al j]) (.Constant (.str "turn") k1 p1) Γ1 (.im (.str "turn")))
    (hs : swapsWith e (some (.Subscript nm (.Constant (.str "turn") k1 p1) p')) pos.line X.env = pure false := by rfl) : S1 X C Hs Γ (.Assign [.Subscript nm (.Constant (.str "turn") k1 p1) p'] e pos) (.nx (Γ1.set j (some (Deck.m ⟨d.great, d.mix, x⟩)))) := by
  have z := s_putD (x := .inr "turn") (p' := p') (pos := pos) hu j hn he hj hb (show (3 : Nat) < sizeLine by decide) hs
  rw [Deck.turn_put] at z
  exact z
end
end RL

set_option maxHeartbeats 2000000
/-! RL19: what the own rewriting of picks and of sameness leans on -/
namespace RL
open PySem L2
mutual
/-- data that can be told the same, of a bounded depth -/
def D.pl : Nat → D → Bool
  | _, .non => true
  | _, .bl _ => true
  | _, .int _ => true
  | _, .str _ => true
  | 0, .tup _ => false
  | n + 1, .tup l => pls n l
  | _, _ => false
def pls : Nat → List D → Bool
  | _, [] => true
  | n, d :: l => D.pl n d && pls n l
end
theorem pls_all (n : Nat) : ∀ l : List D, pls n l = l.all (D.pl n)
  | [] => by unfold pls; rfl
  | d :: l => by unfold pls; rw [pls_all n l] <;> rfl
theorem pls_mem {n : Nat} {l : List D} (h : pls n l = true) {i : Int} {d : D} (e : atI l i = some d) : D.pl n d = true := by
  rw [pls_all, List.all_eq_true] at h
  unfold atI at e
  cases q : ixN l.length i with
  | none => rw [q] at e; cases e
  | some j => rw [q] at e; exact h d (List.mem_of_getElem? e)
abbrev sameR (n : Nat) : List M → M → List M → Prop := fun ms r ms' => ∃ d : D, D.pl n d = true ∧ ms = [.im d, .im d] ∧ r = .im (.bl true) ∧ ms' = []
open Classical in
noncomputable def sameF (n : Nat) (l : List D) (_ : Unit) (x : Int × D) : Option Unit := if atI l x.1 = some x.2 ∧ D.pl n x.2 = true then some () else none
theorem atI_nat {α : Type} {l : List α} {i : Nat} {x : α} (h : l[i]? = some x) : atI l (i : Int) = some x := by
  have hl : i < l.length := (List.getElem?_eq_some_iff.mp h).1
  unfold atI ixN
  rw [if_pos (Int.natCast_nonneg i), if_pos (by omega)]
  simpa using h
theorem forS_all {S α : Type} {f : S → α → Option S} {s : S} : ∀ {xs : List α}, (∀ x ∈ xs, f s x = some s) → forS f s xs = some s
  | [], _ => rfl
  | x :: xs, h => by
    unfold forS
    rw [h x (by simp)]
    exact forS_all fun y hy => h y (by simp [hy])
theorem sameF_all {n : Nat} {l : List D} (h : pls n l = true) : forS (sameF n l) () (numL l) = some () := by
  refine forS_all fun x hx => ?_
  unfold numL at hx
  obtain ⟨i, hi⟩ := List.getElem?_of_mem hx
  rw [List.getElem?_mapIdx] at hi
  cases q : l[i]? with
  | none => rw [q] at hi; cases hi
  | some d =>
    rw [q] at hi
    cases hi
    unfold sameF
    rw [if_pos ⟨atI_nat q, pls_mem h (atI_nat q)⟩]
section
variable {X : Cx} {C : Cn} {Γ Γ1 Γ2 : Ctx} {Ts : List T} {e a b c : Expr} {pos q : Pos} {k k2 : Bool} {kk : Nat}
theorem ee_isB (h : EE X C Γ Ts a Γ1 (.im (.bl k))) : EE X C Γ Ts (.Compare a [.Is] [.Constant (.bool k2) kk q] pos) Γ1 (.im (.bl (decide (k = k2)))) := ee_cmp op_isBl (nomark _) h ee_bl (r2s_im fun x y H hx hy Q q => by
  unfold rD at hx hy
  exact ⟨k, k2, hx, hy, q _ (by unfold rD; rfl)⟩)
theorem et_to (h : ET X C Γ Ts e Γ1 k) (z : k = k2) : ET X C Γ Ts e Γ1 k2 := z ▸ h
theorem ew_to (h : EW X C Γ Ts e Γ1 k) (z : k = k2) : EW X C Γ Ts e Γ1 k2 := z ▸ h
theorem map_eX (l : List D) : l.map eX = l := by
  induction l with
  | nil => rfl
  | cons d l ih => rw [List.map_cons, ih]
end
theorem ps_len {α : Type} {f : α → D} {xs : List α} : (xs.map f).length = xs.length := List.length_map _
theorem pl_int {n : Nat} (i : Int) : D.pl n (.int i) = true := by cases n <;> (unfold D.pl; rfl)
theorem pl_bl {n : Nat} (i : Bool) : D.pl n (.bl i) = true := by cases n <;> (unfold D.pl; rfl)
theorem pl_str {n : Nat} (i : Str) : D.pl n (.str i) = true := by cases n <;> (unfold D.pl; rfl)
theorem pl_non {n : Nat} (i : Unit) : D.pl n .non = true := by cases n <;> (unfold D.pl; rfl)
theorem pl_tl {n : Nat} {α : Type} {f : α → D} (h : ∀ x, D.pl n (f x) = true) (l : List α) : D.pl (n + 1) (.tup (l.map f)) = true := by
  unfold D.pl
  rw [pls_all, List.all_eq_true]
  intro d hd
  obtain ⟨x, _, rfl⟩ := List.mem_map.mp hd
  exact h x
theorem pl_o {n : Nat} {α : Type} {f : α → D} (h : ∀ x, D.pl n (f x) = true) : ∀ o : Option α, D.pl n (eO f o) = true
  | none => by unfold eO; exact pl_non ()
  | some x => by unfold eO; exact h x
theorem pl_t2 {n : Nat} {α β : Type} {f : α → D} {g : β → D} (h : ∀ x, D.pl n (f x) = true) (k : ∀ x, D.pl n (g x) = true) (p : α × β) : D.pl (n + 1) (eT2 f g p) = true := by
  unfold eT2 D.pl pls pls pls
  rw [h, k] <;> rfl
theorem pl_t3 {n : Nat} {α β γ : Type} {f : α → D} {g : β → D} {e : γ → D} (h : ∀ x, D.pl n (f x) = true) (k : ∀ x, D.pl n (g x) = true) (j : ∀ x, D.pl n (e x) = true) (p : α × β × γ) : D.pl (n + 1) (eT3 f g e p) = true := by
  unfold eT3 D.pl pls pls pls pls
  rw [h, k, j] <;> rfl
/-- an item of a list, drawn -/
theorem not_ty {d : D} {n : Nat} (h : D.pl n d = true) : ∀ m, d ≠ .ty m := fun m e => by
  subst e
  cases n <;> (unfold D.pl at h; cases h)
end RL

set_option maxHeartbeats 2000000
/-! RL20: a, b = e1, e2 by way of a tuple (where a name is taken along by a comprehension) -/
namespace RL
open PySem L2
section
variable {X : Cx} {C : Cn} {Γ Γ1 Γ2 : Ctx} {Hs : List T} {a b c : Expr} {pos px py pz pt : Pos} {m1 m2 m3 : M}
theorem s_unp2 (i j : Nat) {x y : Str} {kt k2 pt2} (hcm : X.calm = true) (hN : X.N.Nodup) (hi : X.N[i]? = some x) (hj : X.N[j]? = some y) (hij : i ≠ j) (hxl : Loc X.env.scope x) (hyl : Loc X.env.scope y)
    (hpi : ∀ p ∈ C.pin, p.1 ≠ i) (hpj : ∀ p ∈ C.pin, p.1 ≠ j) (hfi : Free i Hs) (hfj : Free j Hs) (ha : EA X C Γ Hs [a, b] Γ1 [.own m1, .own m2])
    (hw : swappedStores [.Tuple [.Name x px, .Name y py] kt pt] (.Tuple [a, b] k2 pt2) X.env = pure none := by kernel_rfl)
    (hs : swapsWithSole [.Tuple [.Name x px, .Name y py] kt pt] (.Tuple [a, b] k2 pt2) pos.line X.env = pure false := by rfl)
    (h1 : (assignEach [.Tuple [.Name x px, .Name y py] kt pt] X.env).map (·.2) = [assign (.Tuple [.Name x px, .Name y py] kt pt) X.env] := by rfl)
    (h2 : (assignEach [.Name x px, .Name y py] X.env).map (·.2) = assign (.Name x px) X.env :: (assignEach [.Name y py] X.env).map (·.2) := by rfl)
    (h3 : (assignEach [.Name y py] X.env).map (·.2) = assign (.Name y py) X.env :: (assignEach [] X.env).map (·.2) := by rfl)
    (hn : (assignEach [.Name x px, .Name y py] X.env).length = 2 := by rfl) (hst : (assignEach [.Name x px, .Name y py] X.env).findIdx? (·.1) = none := by rfl)
    (hn1 : X.fn x = true ∨ X.env.scope.names.lookup x = some .local := by first | exact .inl rfl | exact .inr rfl) (hn2 : X.fn y = true ∨ X.env.scope.names.lookup y = some .local := by first | exact .inl rfl | exact .inr rfl) :
    S1 X C Hs Γ (.Assign [.Tuple [.Name x px, .Name y py] kt pt] (.Tuple [a, b] k2 pt2) pos) (.nx ((Γ1.set j (some m2)).set i (some m1))) :=
  (ps_asg (pe_tup ha) (pg_tup hcm (pgs_cons (pg_name hN hi hxl hn1) (pgs_cons (pg_name hN hj hyl hn2) pgs_nil h3) h2) hn hst) hs hw h1).wk fun σ H D ⟨⟨hs, h⟩, q⟩ => ⟨hs, h, fun us H1 hl h1 => by
    obtain ⟨u, w, rfl⟩ : ∃ u w, us = [u, w] := match us, hl with | [u, w], _ => ⟨u, w, rfl⟩
    refine ⟨show 2 ≤ sizeLine by decide, fun p hp => ⟨p, [u, w], rfl, SqT.of upd_same, rfl, u, [w], rfl, w, [], rfl, rfl, ?_⟩⟩
    have h2 : As C Γ1 ((Hs ++ [.own m1]) ++ [.own m2]) σ ((hs ++ [u]) ++ [w]) (upd H1 p (.tup [u, w])) := by simpa using h1.ext (Ext.new hp)
    have h3 := h2.set hpj (hfj.append free1)
    have h4 := h3.set hpi hfi
    have e : (σ.set j (some w)).set i (some u) = (σ.set i (some u)).set j (some w) := List.set_comm _ _ (Ne.symm hij)
    rw [e] at h4
    exact q _ hs _ h4⟩
theorem s_unp3 (i j l : Nat) {x y z : Str} {kt k2 pt2} (hcm : X.calm = true) (hN : X.N.Nodup) (hi : X.N[i]? = some x) (hj : X.N[j]? = some y) (hk : X.N[l]? = some z) (hij : i ≠ j) (hil : i ≠ l) (hjl : j ≠ l) (hxl : Loc X.env.scope x) (hyl : Loc X.env.scope y) (hzl : Loc X.env.scope z)
    (hpi : ∀ p ∈ C.pin, p.1 ≠ i) (hpj : ∀ p ∈ C.pin, p.1 ≠ j) (hpl : ∀ p ∈ C.pin, p.1 ≠ l) (hfi : Free i Hs) (hfj : Free j Hs) (hfl : Free l Hs) (ha : EA X C Γ Hs [a, b, c] Γ1 [.own m1, .own m2, .own m3])
    (hw : swappedStores [.Tuple [.Name x px, .Name y py, .Name z pz] kt pt] (.Tuple [a, b, c] k2 pt2) X.env = pure none := by kernel_rfl)
    (hs : swapsWithSole [.Tuple [.Name x px, .Name y py, .Name z pz] kt pt] (.Tuple [a, b, c] k2 pt2) pos.line X.env = pure false := by rfl)
    (h1 : (assignEach [.Tuple [.Name x px, .Name y py, .Name z pz] kt pt] X.env).map (·.2) = [assign (.Tuple [.Name x px, .Name y py, .Name z pz] kt pt) X.env] := by rfl)
    (h2 : (assignEach [.Name x px, .Name y py, .Name z pz] X.env).map (·.2) = assign (.Name x px) X.env :: (assignEach [.Name y py, .Name z pz] X.env).map (·.2) := by rfl)
    (h3 : (assignEach [.Name y py, .Name z pz] X.env).map (·.2) = assign (.Name y py) X.env :: (assignEach [.Name z pz] X.env).map (·.2) := by rfl)
    (h4 : (assignEach [.Name z pz] X.env).map (·.2) = assign (.Name z pz) X.env :: (assignEach [] X.env).map (·.2) := by rfl)
    (hn : (assignEach [.Name x px, .Name y py, .Name z pz] X.env).length = 3 := by rfl) (hst : (assignEach [.Name x px, .Name y py, .Name z pz] X.env).findIdx? (·.1) = none := by rfl)
    (hn1 : X.fn x = true ∨ X.env.scope.names.lookup x = some .local := by first | exact .inl rfl | exact .inr rfl) (hn2 : X.fn y = true ∨ X.env.scope.names.lookup y = some .local := by first | exact .inl rfl | exact .inr rfl) (hn3 : X.fn z = true ∨ X.env.scope.names.lookup z = some .local := by first | exact .inl rfl | exact .inr rfl) :
    S1 X C Hs Γ (.Assign [.Tuple [.Name x px, .Name y py, .Name z pz] kt pt] (.Tuple [a, b, c] k2 pt2) pos) (.nx (((Γ1.set l (some m3)).set j (some m2)).set i (some m1))) :=
  (ps_asg (pe_tup ha) (pg_tup hcm (pgs_cons (pg_name hN hi hxl hn1) (pgs_cons (pg_name hN hj hyl hn2) (pgs_cons (pg_name hN hk hzl hn3) pgs_nil h4) h3) h2) hn hst) hs hw h1).wk fun σ H D ⟨⟨hs, h⟩, q⟩ => ⟨hs, h, fun us H1 hl h1 => by
    obtain ⟨u, w, r, rfl⟩ : ∃ u w r, us = [u, w, r] := match us, hl with | [u, w, r], _ => ⟨u, w, r, rfl⟩
    refine ⟨show 3 ≤ sizeLine by decide, fun p hp => ⟨p, [u, w, r], rfl, SqT.of upd_same, rfl, u, [w, r], rfl, w, [r], rfl, r, [], rfl, rfl, ?_⟩⟩
    have h2 : As C Γ1 (((Hs ++ [.own m1]) ++ [.own m2]) ++ [.own m3]) σ (((hs ++ [u]) ++ [w]) ++ [r]) (upd H1 p (.tup [u, w, r])) := by simpa using h1.ext (Ext.new hp)
    have h3 := h2.set hpl ((hfl.append free1).append free1)
    have h4 := h3.set hpj (hfj.append free1)
    have h5 := h4.set hpi hfi
    have e : ((σ.set l (some r)).set j (some w)).set i (some u) = ((σ.set i (some u)).set j (some w)).set l (some r) := by
      rw [List.set_comm _ _ (Ne.symm hij), List.set_comm (some r) (some u) (Ne.symm hil), List.set_comm (some r) (some w) (Ne.symm hjl)]
    rw [e] at h5
    exact q _ hs _ h5⟩
end
section
variable {X : Cx} {C : Cn} {Γ Γ1 Γ2 : Ctx} {Ts ts : List T} {k n : Nat} {f : Addr} {fd : FuncData} {ps : List Str} {x : Str} {p pos : Pos} {e : Expr} {es : List Expr} {ios : List Nat} {rel : List M → M → List M → Prop} {ms ms' : List M} {r : M}
theorem ee_callX (F : FnG X.prog X.w X.K X.mg X.base k f fd ps (spR X.K n ios rel)) (hr : Room k X.A) (hG : X.A.guards = some []) (hm : X.mg x = some (.ref f)) (hk : PySem.W.keepIn X.K (.ref f) = true) (hb : Binds X.K fd ps [])
    (ha : EA X C Γ Ts (e :: es) Γ1 ts) (hrel : rel ms r ms') (hΓ : putAll Γ1 (jsOf ts ios) ms' = Γ2 := by rfl) (hg : Gl X x := by rfl) (hK : X.K = C.K := by rfl) (hn : ts.length = n := by rfl) (hms : ts.map T.mo = ms.map some := by rfl) (hl : ms'.length = ios.length := by rfl) (hdb : (x == ("__debug__" : Str)) = false := by decide)
    (he : starEach (e :: es) X.env = (false, eval e X.env) :: starEach es X.env := by rfl) (hpl : (backTo pos (starEach es X.env)).any (·.1) = false := by rfl) :
    EE X C Γ Ts (.Call (.Name x p) (e :: es) [] pos) Γ2 (.own r) := hΓ ▸ ee_call F hr hG hm hk hb ha hrel hg hK hn hms hl hdb he hpl
end
theorem outk_nx {S R Q : Type} {s : S} {f : S → Option Q} {g : R → Option Q} {x : Option Q} (h : Out.k (.nx s) f g = x) : f s = x := h
theorem outk_rt {S R Q : Type} {r : R} {f : S → Option Q} {g : R → Option Q} {x : Option Q} (h : Out.k (.rt r) f g = x) : g r = x := h
theorem outk_bk {S R Q : Type} {s : S} {f : S → Option Q} {g : R → Option Q} {x : Q} (h : Out.k (.bk s) f g = some x) : False := by cases h
theorem outk_ct {S R Q : Type} {s : S} {f : S → Option Q} {g : R → Option Q} {x : Q} (h : Out.k (.ct s) f g = some x) : False := by cases h
end RL

set_option maxHeartbeats 2000000
/-! RL21: drawing, in plain Lean -/
namespace RL
open PySem L2
theorem modB {a b : Int} (h : 0 < b) (h2 : b < 2 ^ 64) : CMul (a % b) (a % b) := .inl ⟨by have := Int.emod_nonneg a (Int.ne_of_gt h); omega, by have := Int.emod_lt_of_pos a h; omega⟩
def draw_m (deck : Deck) (many : Int) : Option (Int × Deck) :=
  if (decide (many < 2)) = true then some (0, deck) else
  if (!deck.great.isEmpty) = true then
    deck.great.getLast?.bind fun cell => if (decide (many ≤ cell)) = true then (gd (decide (CDivW cell many))).bind fun _ => (gd (decide (deck.great.dropLast.length < sizeLine))).bind fun _ => some (cell % many, ⟨deck.great.dropLast ++ [cell / many], deck.mix, deck.turn⟩)
      else some (cell % many, ⟨deck.great.dropLast, deck.mix, deck.turn⟩)
  else
    let t := deck.turn + 1
    let one := (deck.mix + t * 2654435761) % 4294967291
    let two := (one * one + t * 362437 + 5) % 4294967279
    some ((two * two + one) % 4294967231 / 4096 % many, ⟨deck.great, deck.mix, t⟩)
abbrev drawR : List M → M → List M → Prop := fun ms r ms' => ∃ (deck : Deck) (many : Int) (out : Int × Deck), draw_m deck many = some out ∧ ms = [Deck.m deck, .im (.int many)] ∧ r = .im (.int out.1) ∧ ms' = [Deck.m out.2]
def pick_m {α : Type} (deck : Deck) (items : List α) : Option (α × Deck) := (draw_m deck items.length).bind fun p => (atI items p.1).bind fun x => some (x, p.2)
theorem pick_map {α : Type} (f : α → D) {deck : Deck} {items : List α} {p : α × Deck} (h : pick_m deck items = some p) : pick_m deck (items.map f) = some (f p.1, p.2) := by
  unfold pick_m at h ⊢
  obtain ⟨q, h1, h⟩ := bsplit h
  obtain ⟨x, h2, h⟩ := bsplit h
  cases h
  rw [List.length_map, h1]
  show (atI (items.map f) q.1).bind _ = _
  rw [atI_map h2]
  rfl
abbrev pickR : List M → M → List M → Prop := fun ms r ms' => ∃ (deck : Deck) (items : List D) (out : D × Deck), pick_m deck items = some out ∧ (ms = [Deck.m deck, .im (.lst items)] ∨ ms = [Deck.m deck, .im (.tup items)]) ∧ r = .im out.1 ∧ ms' = [Deck.m out.2]
/-! ### it is total -/
def Deck.ok (d : Deck) : Prop := d.great.length ≤ 63
theorem bex {α β : Type} {o : Option α} {f : α → Option β} {P : β → Prop} {a : α} (h : o = some a) (k : ∃ b, f a = some b ∧ P b) : ∃ b, o.bind f = some b ∧ P b := by
  rw [h]
  exact k
theorem iex {β : Type} {c : Bool} {x y : Option β} {P : β → Prop} (h1 : c = true → ∃ b, x = some b ∧ P b) (h2 : c = false → ∃ b, y = some b ∧ P b) : ∃ b, (if c = true then x else y) = some b ∧ P b := by
  cases c with
  | true => rw [if_pos rfl]; exact h1 rfl
  | false => rw [if_neg Bool.false_ne_true]; exact h2 rfl
theorem gdd {p : Prop} [Decidable p] (h : p) : gd (decide p) = some () := gd_ok (decide_eq_true h)
theorem draw_tot {d : Deck} {n : Int} (h : d.ok) (hn : n < 2 ^ 60) : ∃ p, draw_m d n = some p ∧ p.2.ok ∧ 0 ≤ p.1 ∧ (1 ≤ n → p.1 < n) := by
  unfold draw_m
  unfold Deck.ok at h
  refine iex (fun hc => ⟨_, rfl, h, Int.le_refl _, fun z => by show (0 : Int) < n; omega⟩) fun hc => ?_
  have h2 : 2 ≤ n := by have := of_decide_eq_false hc; omega
  have hm : ∀ a : Int, 0 ≤ a % n ∧ (1 ≤ n → a % n < n) := fun a => ⟨Int.emod_nonneg a (by omega), fun _ => Int.emod_lt_of_pos a (by omega)⟩
  refine iex (fun hg => ?_) fun hg => ?_
  · cases hq : d.great with
    | nil => rw [hq] at hg; cases hg
    | cons x l =>
      rw [hq] at h
      have hl : ∃ c, (x :: l).getLast? = some c := by
        rw [List.getLast?_eq_some_getLast (by simp)]
        exact ⟨_, rfl⟩
      obtain ⟨c, hc2⟩ := hl
      have hd : (x :: l).dropLast.length = l.length := by simp
      refine bex hc2 (iex (fun hm1 => ?_) fun hm1 => ⟨_, rfl, by show (x :: l).dropLast.length ≤ 63; rw [hd]; simp at h; omega, hm c⟩)
      refine bex (gdd (wide_div (b := 60) (by omega) (by omega) (by omega) (by omega))) (bex (gdd ?_) ⟨_, rfl, ?_, hm c⟩)
      · rw [hd]
        have : (63 : Nat) < sizeLine := by decide
        simp at h
        omega
      · show ((x :: l).dropLast ++ [c / n]).length ≤ 63
        rw [List.length_append, hd]
        simpa using h
  · exact ⟨_, rfl, h, hm _⟩
theorem atI_ex {α : Type} {l : List α} {i : Int} (h0 : 0 ≤ i) (h : i < l.length) : ∃ x, atI l i = some x ∧ x ∈ l := by
  have hl : i.toNat < l.length := by omega
  refine ⟨l[i.toNat], ?_, List.getElem_mem hl⟩
  unfold atI ixN
  rw [if_pos h0, if_pos h]
  exact List.getElem?_eq_getElem hl
theorem pick_tot {α : Type} {d : Deck} {xs : List α} (h : d.ok) (hx : 1 ≤ xs.length) (hl : xs.length < 2 ^ 60) : ∃ p, pick_m d xs = some p ∧ p.2.ok ∧ p.1 ∈ xs := by
  obtain ⟨p, hp, h1, h2, h3⟩ := draw_tot (n := xs.length) h (by omega)
  obtain ⟨x, hx1, hx2⟩ := atI_ex (l := xs) h2 (h3 (by omega))
  exact bex hp (bex hx1 ⟨_, rfl, h1, hx2⟩)
/-! ### loops -/
theorem lcM_filterU {α β : Type} {t : α → Bool} {g : α → β} {xs : List α} : lcM (fun (_ : Unit) x => some ((), if t x = true then some (g x) else none)) () xs = some ((), (xs.filter t).map g) := lcM_filter t g () xs
theorem lcM_mapU {α β : Type} {g : α → β} {xs : List α} : lcM (fun (_ : Unit) x => some ((), some (g x))) () xs = some ((), xs.map g) := lcM_map g () xs
theorem forS_app {S α : Type} {f : S → α → Option S} : ∀ {xs ys : List α} {s : S}, forS f s (xs ++ ys) = (forS f s xs).bind fun s' => forS f s' ys
  | [], ys, s => rfl
  | x :: xs, ys, s => by
    show (f s x).bind _ = ((f s x).bind _).bind _
    cases f s x with
    | none => rfl
    | some s1 => exact forS_app
theorem forS_snoc {S α : Type} {f : S → α → Option S} {xs : List α} {x : α} {s s1 s2 : S} (h1 : forS f s xs = some s1) (h2 : f s1 x = some s2) : forS f s (xs ++ [x]) = some s2 := by
  rw [forS_app, h1]
  show (f s1 x).bind _ = _
  rw [h2] <;> rfl
theorem forS_take {S α : Type} {f : S → α → Option S} {xs : List α} {s s1 : S} (n : Nat) (h : forS f s xs = some s1) : ∃ s2, forS f s (xs.take n) = some s2 := by
  rw [← List.take_append_drop n xs, forS_app] at h
  obtain ⟨s2, h2, _⟩ := bsplit h
  exact ⟨s2, h2⟩
/-- a loop that never stops short, under what it keeps -/
theorem forS_ex {S α : Type} {f : S → α → Option S} (Inv : List α → S → Prop) : ∀ {xs ys : List α} {s : S}, (∀ zs x s, x ∈ xs → Inv zs s → ∃ s', f s x = some s' ∧ Inv (zs ++ [x]) s') → Inv ys s → ∃ s', forS f s xs = some s' ∧ Inv (ys ++ xs) s'
  | [], ys, s, _, h => ⟨s, rfl, by simpa using h⟩
  | x :: xs, ys, s, st, h => by
    obtain ⟨s1, e1, i1⟩ := st ys x s (by simp) h
    obtain ⟨s2, e2, i2⟩ := forS_ex Inv (xs := xs) (ys := ys ++ [x]) (s := s1) (fun zs y s hy => st zs y s (by simp [hy])) i1
    refine ⟨s2, ?_, by simpa using i2⟩
    unfold forS
    rw [e1]
    exact e2
theorem forO_ex {S R α : Type} {f : S → α → Option (Out S R)} (Inv : S → Prop) : ∀ {xs : List α} {s : S}, (∀ x s, x ∈ xs → Inv s → ∃ s', f s x = some (.nx s') ∧ Inv s') → Inv s → ∃ s', forO f s xs = some (.nx s') ∧ Inv s'
  | [], s, _, h => ⟨s, rfl, h⟩
  | x :: xs, s, st, h => by
    obtain ⟨s1, e1, i1⟩ := st x s (by simp) h
    obtain ⟨s2, e2, i2⟩ := forO_ex Inv (xs := xs) (s := s1) (fun y s hy => st y s (by simp [hy])) i1
    refine ⟨s2, ?_, i2⟩
    unfold forO
    rw [e1]
    exact e2
theorem lcM_ex {S α β : Type} {f : S → α → Option (S × Option β)} (Inv : S → Prop) (P : β → Prop) : ∀ {xs : List α} {s : S}, (∀ x s, x ∈ xs → Inv s → ∃ p, f s x = some p ∧ Inv p.1 ∧ ∃ y, p.2 = some y ∧ P y) → Inv s → ∃ q, lcM f s xs = some q ∧ Inv q.1 ∧ q.2.length = xs.length ∧ ∀ y ∈ q.2, P y
  | [], s, _, h => ⟨(s, []), rfl, h, rfl, fun y hy => by simp at hy⟩
  | x :: xs, s, st, h => by
    obtain ⟨p, e1, i1, y, ey, py⟩ := st x s (by simp) h
    obtain ⟨q, e2, i2, l2, p2⟩ := lcM_ex Inv P (xs := xs) (s := p.1) (fun y s hy => st y s (by simp [hy])) i1
    refine ⟨(q.1, y :: q.2), ?_, i2, by simp [l2], fun z hz => by
      rcases List.mem_cons.mp hz with e | e
      · subst e; exact py
      · exact p2 z e⟩
    unfold lcM
    rw [e1]
    show (lcM f p.1 xs).bind _ = _
    rw [e2, ey] <;> rfl
theorem whS_ex {S : Type} {c : S → Bool} {f : S → Option S} (Inv : S → Prop) (μ : S → Nat) (st : ∀ s, Inv s → c s = true → ∃ s', f s = some s' ∧ Inv s' ∧ μ s' < μ s) : ∀ {n : Nat} {s : S}, Inv s → μ s < n → ∃ s', whS c f n s = some s' ∧ Inv s' ∧ c s' = false
  | 0, s, _, h => absurd h (Nat.not_lt_zero _)
  | n + 1, s, i, h => by
    unfold whS
    cases hc : c s with
    | true =>
      obtain ⟨s1, e1, i1, d1⟩ := st s i hc
      rw [if_pos rfl, e1]
      exact whS_ex Inv μ st (n := n) (s := s1) i1 (by omega)
    | false =>
      rw [if_neg Bool.false_ne_true]
      exact ⟨s, rfl, i, hc⟩
theorem cutL_to {α : Type} {xs : List α} {n : Nat} : cutL xs none (some (n : Int)) = xs.take n := by
  unfold cutL
  rw [HT.sIx_none, HT.sIx_nat]
  simp only [List.drop_zero, Nat.sub_zero]
  rcases Nat.le_total n xs.length with h | h
  · rw [Nat.min_eq_left h]
  · rw [Nat.min_eq_right h, List.take_of_length_le (Nat.le_refl _), List.take_of_length_le h]
theorem mem_numL {α : Type} {xs : List α} {x : Int × α} (h : x ∈ numL xs) : ∃ i : Nat, x.1 = i ∧ xs[i]? = some x.2 := by
  unfold numL at h
  obtain ⟨i, hi⟩ := List.getElem?_of_mem h
  rw [List.getElem?_mapIdx] at hi
  cases q : xs[i]? with
  | none => rw [q] at hi; cases hi
  | some d => rw [q] at hi; cases hi; exact ⟨i, rfl, q⟩
theorem len_numL {α : Type} {xs : List α} : (numL xs).length = xs.length := by unfold numL; simp
theorem mem_rng {lo hi x : Int} (h : x ∈ rng lo hi) : lo ≤ x ∧ x < hi := by
  unfold rng at h
  obtain ⟨i, hi, rfl⟩ := List.mem_map.mp h
  rw [List.mem_range] at hi
  omega
/-! ### what repr shows -/
def Fine (k n : Nat) (d : D) : Prop := d.ok = true ∧ d.p.showable = true ∧ d.p.hasDict = false ∧ d.p.leavesShort 1000 = true ∧ d.p.depth ≤ k ∧ d.p.bulk ≤ n
theorem shDD_ok {k n : Nat} {d : D} (h : Fine k n d) (hk : k ≤ 60) (hn : n ≤ 16000) : ∃ s, shDD d = some s := by
  obtain ⟨h1, h2, h3, h4, h5, h6⟩ := h
  have b := PyData.shown_le_bulk 1000 (by omega) d.p h4
  have s : d.p.shown.length ≤ sizeLine := by
    have : (16777216 : Nat) = sizeLine := by decide
    have e : 1002 * d.p.bulk ≤ 1002 * 16000 := Nat.mul_le_mul_left _ (by omega)
    omega
  unfold shDD shows
  rw [if_pos (by simp only [h1, h2, h3, Bool.and_eq_true, decide_eq_true_eq, Bool.not_false, true_and]; exact ⟨by omega, s⟩)]
  exact ⟨_, rfl⟩
end RL

set_option maxHeartbeats 2000000
/-! RL22: data that repr shows -/
namespace RL
open PySem L2
theorem fine_int {k n : Nat} {i : Int} (h : i.natAbs < 10 ^ 12) : Fine k n (.int i) := by
  have e1 := PyData.shown_int_le h
  have h2 : i.natAbs.log2 < 1920 := by
    by_cases z : i.natAbs = 0
    · rw [z]; decide
    · rw [Nat.log2_lt z]
      exact Nat.lt_trans h (by decide)
  refine ⟨by unfold D.ok; rfl, ?_, ?_, ?_, ?_, ?_⟩ <;> unfold D.p
  · unfold PyData.showable; exact decide_eq_true h2
  · unfold PyData.hasDict; rfl
  · unfold PyData.leavesShort; exact decide_eq_true (by omega)
  · unfold PyData.depth; omega
  · unfold PyData.bulk; omega
theorem fine_non {k n : Nat} : Fine k n .non := by
  refine ⟨by unfold D.ok; rfl, ?_, ?_, ?_, ?_, ?_⟩ <;> unfold D.p
  · unfold PyData.showable; rfl
  · unfold PyData.hasDict; rfl
  · unfold PyData.leavesShort; rfl
  · unfold PyData.depth; omega
  · unfold PyData.bulk; omega
theorem fine_bl {k n : Nat} {b : Bool} : Fine k n (.bl b) := by
  refine ⟨by unfold D.ok; rfl, ?_, ?_, ?_, ?_, ?_⟩ <;> unfold D.p
  · unfold PyData.showable; rfl
  · unfold PyData.hasDict; rfl
  · unfold PyData.leavesShort; rfl
  · unfold PyData.depth; omega
  · unfold PyData.bulk; omega
theorem fine_str {k n : Nat} {s : Str} (h : PyData.strOk s = true) (hl : s.cps.size ≤ n) : Fine k n (.str s) := by
  refine ⟨by unfold D.ok; exact h, ?_, ?_, ?_, ?_, ?_⟩ <;> unfold D.p
  · unfold PyData.showable; rfl
  · unfold PyData.hasDict; rfl
  · unfold PyData.leavesShort
    rw [List.all_eq_true]
    intro c hc
    unfold PyData.strOk at h
    rw [Array.all_eq_true_iff_forall_mem] at h
    have := of_decide_eq_true (h c (Array.mem_toList_iff.mp hc))
    exact decide_eq_true (by omega)
  · unfold PyData.depth; omega
  · unfold PyData.bulk; exact hl
theorem fine_all {k n : Nat} : ∀ {l : List D}, (∀ d ∈ l, Fine k n d) → oks l = true ∧ PyData.showableAll (ps l) = true ∧ PyData.hasDictAll (ps l) = false ∧ PyData.leavesShortAll 1000 (ps l) = true ∧ PyData.depthAll (ps l) ≤ k ∧ PyData.bulkAll (ps l) ≤ l.length * (n + 1)
  | [], _ => by
    refine ⟨by unfold oks; rfl, ?_, ?_, ?_, ?_, ?_⟩ <;> unfold ps
    · unfold PyData.showableAll; rfl
    · unfold PyData.hasDictAll; rfl
    · unfold PyData.leavesShortAll; rfl
    · unfold PyData.depthAll; omega
    · unfold PyData.bulkAll; omega
  | d :: l, h => by
    obtain ⟨a1, a2, a3, a4, a5, a6⟩ := h d (by simp)
    obtain ⟨b1, b2, b3, b4, b5, b6⟩ := fine_all (l := l) fun x hx => h x (by simp [hx])
    refine ⟨by unfold oks; rw [a1, b1] <;> rfl, ?_, ?_, ?_, ?_, ?_⟩ <;> unfold ps
    · unfold PyData.showableAll; rw [a2, b2] <;> rfl
    · unfold PyData.hasDictAll; rw [a3, b3] <;> rfl
    · unfold PyData.leavesShortAll; rw [a4, b4] <;> rfl
    · unfold PyData.depthAll; omega
    · unfold PyData.bulkAll
      rw [List.length_cons, Nat.add_mul, Nat.one_mul]
      omega
theorem fine_tup {k n m : Nat} {l : List D} (h : ∀ d ∈ l, Fine k n d) (hl : l.length ≤ m) : Fine (k + 1) (m * (n + 1)) (.tup l) := by
  obtain ⟨b1, b2, b3, b4, b5, b6⟩ := fine_all h
  have e : l.length * (n + 1) ≤ m * (n + 1) := Nat.mul_le_mul_right _ hl
  refine ⟨by unfold D.ok; exact b1, ?_, ?_, ?_, ?_, ?_⟩ <;> unfold D.p
  · unfold PyData.showable; exact b2
  · unfold PyData.hasDict; exact b3
  · unfold PyData.leavesShort; exact b4
  · unfold PyData.depth; omega
  · unfold PyData.bulk; omega
theorem fine_lst {k n m : Nat} {l : List D} (h : ∀ d ∈ l, Fine k n d) (hl : l.length ≤ m) : Fine (k + 1) (m * (n + 1)) (.lst l) := by
  obtain ⟨b1, b2, b3, b4, b5, b6⟩ := fine_all h
  have e : l.length * (n + 1) ≤ m * (n + 1) := Nat.mul_le_mul_right _ hl
  refine ⟨by unfold D.ok; exact b1, ?_, ?_, ?_, ?_, ?_⟩ <;> unfold D.p
  · unfold PyData.showable; exact b2
  · unfold PyData.hasDict; exact b3
  · unfold PyData.leavesShort; exact b4
  · unfold PyData.depth; omega
  · unfold PyData.bulk; omega
theorem fine_map {α : Type} {k n : Nat} {f : α → D} {l : List α} (h : ∀ x ∈ l, Fine k n (f x)) : ∀ d ∈ l.map f, Fine k n d := fun d hd => by
  obtain ⟨x, hx, rfl⟩ := List.mem_map.mp hd
  exact h x hx
theorem fine_two {k n : Nat} {a b : D} (h1 : Fine k n a) (h2 : Fine k n b) : ∀ d ∈ [a, b], Fine k n d := fun d hd => by
  rcases List.mem_cons.mp hd with e | hd
  · subst e; exact h1
  · rcases List.mem_cons.mp hd with e | hd
    · subst e; exact h2
    · nomatch hd
/-- by the count of rounds -/
theorem forS_exN {S α : Type} {f : S → α → Option S} (Inv : Nat → S → Prop) : ∀ {xs : List α} {s : S} {k : Nat}, (∀ j x s, j < k + xs.length → x ∈ xs → Inv j s → ∃ s', f s x = some s' ∧ Inv (j + 1) s') → Inv k s → ∃ s', forS f s xs = some s' ∧ Inv (k + xs.length) s'
  | [], s, k, _, h => ⟨s, rfl, by simpa using h⟩
  | x :: xs, s, k, st, h => by
    obtain ⟨s1, e1, i1⟩ := st k x s (by simp) (by simp) h
    obtain ⟨s2, e2, i2⟩ := forS_exN Inv (xs := xs) (s := s1) (k := k + 1) (fun j y s hj hy => st j y s (by simp; omega) (by simp [hy])) i1
    refine ⟨s2, ?_, by have e : k + (x :: xs).length = k + 1 + xs.length := by simp; omega
                       rw [e]; exact i2⟩
    unfold forS
    rw [e1]
    exact e2
end RL

set_option maxHeartbeats 4000000
namespace LW
open PySem L2 RL
def top (i : Nat) : Stmt := PySem.Challenge.pw_roomways_k02_whole_rooms_held_and_wished.main.body.getD i (.Pass ⟨0, 0, 0, 0⟩)
abbrev FnP (K : PySem.W.Frag) (x : Str) (st : Stmt) (f : Addr) (fd : FuncData) : Prop := FunD K x x (defArgs st) (defBody st) (defScope st) [] [] f fd
/-! ### held -/
abbrev s_held : Stmt := top 1
abbrev N_held : List Str := ["way", "place", "inside", "word", "room"]
theorem sc_held : FnScope N_held ["way", "place"] (defScope s_held) := ⟨rfl, rfl, rfl, by decide +kernel, rfl, by decide +kernel, by decide +kernel⟩
def held_L1  (s : (List Int)) (x : (Str × Int)) : Option (List Int) := if (decide ((x.1) = ("in" : Str))) = true then ((gd (decide ((s).length < sizeLine))).bind fun p2 => some (s ++ [(x.2)])) else (((s).getLast?).bind fun p3 => some (s).dropLast)
def held_m (way : (List (Str × Int))) (place : Int) : Option (List Int) := (forS held_L1 [] ((cutL way none (some place)))).bind fun p6 => some p6
abbrev heldR : List M → M → List M → Prop := fun ms r ms' => ∃ (way : (List (Str × Int))) (place : Int) (out : (List Int)), held_m way place = some out ∧ ms = [(.im (D.tup ((way).map (eT2 D.str D.int)))), (.im (D.int place))] ∧ r = (.im (D.tup ((out).map D.int))) ∧ ms' = []
theorem held_ok {P : Program} {w : World} {K : PySem.W.Frag} {mg : Str → Option Value} {base : Heap} {f : Addr} {fd : FuncData} (F : FnP K "held" s_held f fd) (g_tuple : mg "tuple" = none) : FnG P w K mg base 1 f fd ["way", "place"] (spR K 2 [] heldR) := by
  refine fn_body (k := 0) F sc_held rfl (by decide) (by decide) (by decide) (by rintro ms r ms' ⟨way, place, out, _, rfl, _, rfl⟩; exact ⟨rfl, rfl⟩) ?_
  rintro cdv A outer s H E H0 io pin mio hpin hr hG ms r ms' ⟨way, place, out, h, rfl, rfl, rfl⟩
  refine ⟨[none, none, none, none, none], ?_, fun k i m h1 h2 => by simp at h1⟩
  unfold held_m at h
  refine ss_cons (Γ1 := [some (.im (D.tup ((way).map (eT2 D.str D.int)))), some (.im (D.int place)), some (.li (([]).map D.int)), none, none]) (s_set (Γ1 := [some (.im (D.tup ((way).map (eT2 D.str D.int)))), some (.im (D.int place)), none, none, none]) (m := (.li (([]).map D.int))) 2 sc_held.nd rfl (by first | exact Or.inl rfl | exact Or.inr rfl) (np1 hpin (by decide)) (ee_lst (ds := []) ea_nil (show 0 ≤ 1000 by decide)) trivial) ?_
  obtain ⟨p6, hp6, h_⟩ := bsplit h; replace h := h_; clear h_
  refine ss_cons (Γ1 := [some (.im (D.tup ((way).map (eT2 D.str D.int)))), some (.im (D.int place)), some (.li ((p6).map D.int)), none, none]) (s_for (J := [3, 4]) (enc := (eT2 D.str D.int)) (xs := ((cutL way none (some place)))) (hx := (fun v => .hid (.im (.tup (((cutL way none (some place))).map (eT2 D.str D.int)))) v)) (cond := (fun _ => True)) (f := held_L1) (s0 := []) (Γs := fun (s1 : (List Int)) => [some (.im (D.tup ((way).map (eT2 D.str D.int)))), some (.im (D.int place)), some (.li ((s1).map D.int)), none, none]) (Γt := fun (s1 : (List Int)) (x1 : (Str × Int)) => [some (.im (D.tup ((way).map (eT2 D.str D.int)))), some (.im (D.int place)), some (.li ((s1).map D.int)), some (.im (D.str (x1.1))), some (.im (D.int (x1.2)))]) rfl Fix.hid (it_wk (Γ1 := [some (.im (D.tup ((way).map (eT2 D.str D.int)))), some (.im (D.int place)), some (.li (([]).map D.int)), none, none]) (it_tup (ee_slTE (enc := (eT2 D.str D.int)) (ee_var 0 (pv 0)) ep_none (ep_some (ee_var 1 (pv 1))))) ⟨rfl, ⟨rfl, ⟨rfl, trivial⟩⟩⟩) (fun _ => trivial) ?_ ?_ hp6) ?_
  · intro v1 s1 x1
    exact (gt_tup rfl (gts_cons (gt_name 3 sc_held.nd rfl (by first | exact Or.inl rfl | exact Or.inr rfl) (np1 hpin (by decide)) ⟨trivial, trivial⟩ (by decide)) (gts_cons (gt_name 4 sc_held.nd rfl (by first | exact Or.inl rfl | exact Or.inr rfl) (np1 hpin (by decide)) ⟨trivial, trivial⟩ (by decide)) gts_nil)))
  · intro v1 s1 x1 s_1 hf1
    unfold held_L1 at hf1
    refine ss_one (s_if (et_eqS (ee_var 3 (pv 3)) ee_str) (fun hk => ?_) (fun hk => ?_))
    · replace hf1 := (if_t hk).symm.trans hf1
      obtain ⟨p4, hp4, hf1_⟩ := bsplit hf1; replace hf1 := hf1_; clear hf1_
      refine ss_cons (Γ1 := [some (.im (D.tup ((way).map (eT2 D.str D.int)))), some (.im (D.int place)), some (.li (((s1 ++ [(x1.2)])).map D.int)), some (.im (D.str (x1.1))), some (.im (D.int (x1.2)))]) (s_expr (t := .own (.im D.non)) (ee_appendE (Γ1 := [some (.im (D.tup ((way).map (eT2 D.str D.int)))), some (.im (D.int place)), some (.li ((s1).map D.int)), some (.im (D.str (x1.1))), some (.im (D.int (x1.2)))]) (enc := D.int) (x := (x1.2)) 2 (pv 2) rfl (ee_var 4 (pv 4)) rfl (gd_d hp4))) ?_
      replace hf1 := Option.some.inj hf1
      subst hf1
      exact ss_nil ⟨rfl, ⟨rfl, ⟨rfl, trivial⟩⟩⟩
    · replace hf1 := (if_f hk).symm.trans hf1
      obtain ⟨p5, hp5, hf1_⟩ := bsplit hf1; replace hf1 := hf1_; clear hf1_
      refine ss_cons (Γ1 := [some (.im (D.tup ((way).map (eT2 D.str D.int)))), some (.im (D.int place)), some (.li (((s1).dropLast).map D.int)), some (.im (D.str (x1.1))), some (.im (D.int (x1.2)))]) (s_expr (t := .own (.im (D.int p5))) (ee_popE (enc := D.int) 2 (pv 2) rfl hp5)) ?_
      replace hf1 := Option.some.inj hf1
      subst hf1
      exact ss_nil ⟨rfl, ⟨rfl, ⟨rfl, trivial⟩⟩⟩
  replace h := Option.some.inj h
  subst h
  exact ss_exit (s_ret (m := (.im (D.tup ((p6).map D.int)))) (ee_tupOf (ds := List.map D.int p6) g_tuple (ee_al 2 (pv 2)) (.al rfl)) trivial) rfl
/-! ### wish -/
abbrev s_wish : Stmt := top 2
abbrev N_wish : List Str := ["way", "place", "word", "room"]
theorem sc_wish : FnScope N_wish ["way", "place"] (defScope s_wish) := ⟨rfl, rfl, rfl, by decide +kernel, rfl, by decide +kernel, by decide +kernel⟩
def wish_m (way : (List (Str × Int))) (place : Int) : Option (Option Int) := (atI way place).bind fun p7 => some (if (decide ((p7.1) = ("in" : Str))) = true then (some (p7.2)) else none)
abbrev wishR : List M → M → List M → Prop := fun ms r ms' => ∃ (way : (List (Str × Int))) (place : Int) (out : (Option Int)), wish_m way place = some out ∧ ms = [(.im (D.tup ((way).map (eT2 D.str D.int)))), (.im (D.int place))] ∧ r = (.im ((eO D.int) out)) ∧ ms' = []
theorem wish_ok {P : Program} {w : World} {K : PySem.W.Frag} {mg : Str → Option Value} {base : Heap} {f : Addr} {fd : FuncData} (F : FnP K "wish" s_wish f fd) : FnG P w K mg base 1 f fd ["way", "place"] (spR K 2 [] wishR) := by
  refine fn_body (k := 0) F sc_wish rfl (by decide) (by decide) (by decide) (by rintro ms r ms' ⟨way, place, out, _, rfl, _, rfl⟩; exact ⟨rfl, rfl⟩) ?_
  rintro cdv A outer s H E H0 io pin mio hpin hr hG ms r ms' ⟨way, place, out, h, rfl, rfl, rfl⟩
  refine ⟨[none, none, none, none], ?_, fun k i m h1 h2 => by simp at h1⟩
  unfold wish_m at h
  obtain ⟨p7, hp7, h_⟩ := bsplit h; replace h := h_; clear h_
  refine ss_cons (Γ1 := [some (.im (D.tup ((way).map (eT2 D.str D.int)))), some (.im (D.int place)), some (.im (D.str (p7.1))), some (.im (D.int (p7.2)))]) (s_unp (Γ1 := [some (.im (D.tup ((way).map (eT2 D.str D.int)))), some (.im (D.int place)), none, none]) (J := [2, 3]) (ee_ixTE (enc := (eT2 D.str D.int)) (ee_var 0 (pv 0)) (ee_var 1 (pv 1)) hp7) (gt_tup rfl (gts_cons (gt_name 2 sc_wish.nd rfl (by first | exact Or.inl rfl | exact Or.inr rfl) (np1 hpin (by decide)) trivial (by decide)) (gts_cons (gt_name 3 sc_wish.nd rfl (by first | exact Or.inl rfl | exact Or.inr rfl) (np1 hpin (by decide)) trivial (by decide)) gts_nil)))) ?_
  replace h := Option.some.inj h
  subst h
  exact ss_exit (s_ret (m := (.im ((eO D.int) (if (decide ((p7.1) = ("in" : Str))) = true then (some (p7.2)) else none)))) (ee_if (t := .own (.im ((eO D.int) (if (decide ((p7.1) = ("in" : Str))) = true then (some (p7.2)) else none)))) (Γ' := [some (.im (D.tup ((way).map (eT2 D.str D.int)))), some (.im (D.int place)), some (.im (D.str (p7.1))), some (.im (D.int (p7.2)))]) (et_eqS (ee_var 2 (pv 2)) ee_str) (fun hk => by rw [if_t hk]; exact (ee_var 3 (pv 3))) (fun hk => by rw [if_f hk]; exact ee_non)) trivial) rfl
/-! ### entries -/
abbrev s_entries : Stmt := top 3
abbrev N_entries : List Str := ["way", "place", "word", "room"]
theorem sc_entries : FnScope N_entries ["way"] (defScope s_entries) := ⟨rfl, rfl, rfl, by decide +kernel, rfl, by decide +kernel, by decide +kernel⟩
def entries_m (way : (List (Str × Int))) : Option (List Int) := (gd (decide (((numL way)).length ≤ sizeLine))).bind fun p10 => (lcM (fun (st : Unit) (x : (Int × (Str × Int))) => some ((), if (decide (((x.2).1) = ("in" : Str))) = true then some (x.1) else none)) () (numL way)).bind fun p11 => some p11.2
abbrev entriesR : List M → M → List M → Prop := fun ms r ms' => ∃ (way : (List (Str × Int))) (out : (List Int)), entries_m way = some out ∧ ms = [(.im (D.tup ((way).map (eT2 D.str D.int))))] ∧ r = (.im (D.tup ((out).map D.int))) ∧ ms' = []
theorem entries_ok {P : Program} {w : World} {K : PySem.W.Frag} {mg : Str → Option Value} {base : Heap} {f : Addr} {fd : FuncData} (F : FnP K "entries" s_entries f fd) (g_enumerate : mg "enumerate" = none) (g_tuple : mg "tuple" = none) : FnG P w K mg base 1 f fd ["way"] (spR K 1 [] entriesR) := by
  refine fn_body (k := 0) F sc_entries rfl (by decide) (by decide) (by decide) (by rintro ms r ms' ⟨way, out, _, rfl, _, rfl⟩; exact ⟨rfl, rfl⟩) ?_
  rintro cdv A outer s H E H0 io pin mio hpin hr hG ms r ms' ⟨way, out, h, rfl, rfl, rfl⟩
  refine ⟨[none, none, none, none], ?_, fun k i m h1 h2 => by simp at h1⟩
  unfold entries_m at h
  obtain ⟨p10, hp10, h_⟩ := bsplit h; replace h := h_; clear h_
  obtain ⟨p11, hp11, h_⟩ := bsplit h; replace h := h_; clear h_
  replace h := Option.some.inj h
  subst h
  exact ss_exit (s_ret (m := (.im (D.tup ((p11.2).map D.int)))) (ee_tupOf (ds := List.map D.int p11.2) g_tuple (ee_lc (f := (fun (st : Unit) (x : (Int × (Str × Int))) => some ((), if (decide (((x.2).1) = ("in" : Str))) = true then some (x.1) else none))) (enc := (encI (eT2 D.str D.int))) (eb := D.int) (xs := (numL way)) (s0 := ()) (hx := (fun v => .hid (.im (.tup ((way).map (eT2 D.str D.int)))) v)) (cond := (fun _ => True)) (Γs := fun (st : Unit) => [some (.im (D.tup ((way).map (eT2 D.str D.int)))), none, none, none]) (Γt := fun (st : Unit) (x : (Int × (Str × Int))) => [some (.im (D.tup ((way).map (eT2 D.str D.int)))), some (.im (D.int (x.1))), some (.im (D.str ((x.2).1))), some (.im (D.int ((x.2).2)))]) (Γu := fun (st : Unit) (x : (Int × (Str × Int))) => [some (.im (D.tup ((way).map (eT2 D.str D.int)))), some (.im (D.int (x.1))), some (.im (D.str ((x.2).1))), some (.im (D.int ((x.2).2)))]) (tb := (fun st x => (decide (((x.2).1) = ("in" : Str))))) rfl sc_entries.nd (blkOk_by (own := [("place", 1), ("word", 2), ("room", 3)]) (N := N_entries) (sc := defScope s_entries) (by decide +kernel))
   { fx := Fix.hid, it := it_wk (Γ1 := [some (.im (D.tup ((way).map (eT2 D.str D.int)))), none, none, none]) (by rw [← enumD_map]; exact it_enumT g_enumerate (ee_var 0 (pv 0))) ⟨rfl, trivial⟩, cd := fun _ => trivial, gt := fun s H Ca cl fp v q acc st x => (gt_tup rfl (gts_cons (gt_name 1 sc_entries.nd rfl (by first | exact Or.inl rfl | exact Or.inr rfl) (np1 hpin (by decide)) ⟨trivial, ⟨trivial, trivial⟩⟩ (by decide)) (gts_cons (gt_tup rfl (gts_cons (gt_name 2 sc_entries.nd rfl (by first | exact Or.inl rfl | exact Or.inr rfl) (np1 hpin (by decide)) ⟨trivial, ⟨trivial, trivial⟩⟩ (by decide)) (gts_cons (gt_name 3 sc_entries.nd rfl (by first | exact Or.inl rfl | exact Or.inr rfl) (np1 hpin (by decide)) ⟨trivial, ⟨trivial, trivial⟩⟩ (by decide)) gts_nil))) gts_nil))), tt := fun s H Ca cl fp v q acc st x => tests1 (et_eqS (ee_var 2 (pv 2)) ee_str),
        el := fun s H Ca cl fp v q acc st x st' y hk hf => by
            rw [if_t hk] at hf; obtain ⟨hf1, hf2⟩ := Prod.mk.inj (Option.some.inj hf); subst hf1; replace hf2 := Option.some.inj hf2; subst hf2; exact ee_wk (Γ1 := [some (.im (D.tup ((way).map (eT2 D.str D.int)))), some (.im (D.int (x.1))), some (.im (D.str ((x.2).1))), some (.im (D.int ((x.2).2)))]) (ee_var 1 (pv 1)) ⟨rfl, trivial⟩,
        ft := fun st x r hk hf => by cases hf; exact ⟨_, if_t hk⟩,
        ff := fun st x r hk hf => by cases hf; exact ⟨if_f hk, ⟨rfl, trivial⟩⟩, br := fun _ => (bare_cons rfl (bare_cons rfl (bare_cons rfl bare_nil))), fr := (freeJ_cons trivial (freeJ_cons trivial (freeJ_cons trivial freeJ_nil))), fh := fun v => (freeJ_cons ⟨trivial, trivial⟩ (freeJ_cons ⟨trivial, trivial⟩ (freeJ_cons ⟨trivial, trivial⟩ freeJ_nil))), pn := pnJ hpin (by decide), ln := (gd_d hp10) }
   hp11) .own) trivial) rfl
/-! ### law_deck -/
abbrev s_l_deck : Stmt := top 5
abbrev N_l_deck : List Str := ["script", "cells", "se\x61l", "cell", "own"]
theorem sc_l_deck : FnScope N_l_deck ["script"] (defScope s_l_deck) := ⟨rfl, rfl, rfl, by decide +kernel, rfl, by decide +kernel, by decide +kernel⟩
def l_deck_L1  (s : Int) (x : Int) : Option Int := some ((((s * 48271) + x) + 1) % 4294967291)
def l_deck_m (script : (List Int)) : Option Deck := (gd (decide ((((cutL script none (some 63)))).length ≤ sizeLine))).bind fun p12 => (lcM (fun (st : Unit) (x : Int) => some ((), some ((2 * (if x < 0 then -x else x)) + (if (decide (x < 0)) = true then 1 else 0)))) () ((cutL script none (some 63)))).bind fun p13 => (forS l_deck_L1 (15910 + (7 * ((script).length : Int))) (p13.2)).bind fun p15 => (gd (decide (((p13.2)).length ≤ sizeLine))).bind fun p16 => (lcM (fun (st : Unit) (x : Int) => some ((), if (decide ((10 ^ 18) ≤ x)) = true then some x else none)) () (p13.2)).bind fun p17 => some (Deck.mk (p17.2).reverse p15 0)
abbrev l_deckR : List M → M → List M → Prop := fun ms r ms' => ∃ (script : (List Int)) (out : Deck), l_deck_m script = some out ∧ ms = [(.im (D.lst ((script).map D.int)))] ∧ r = (Deck.m out) ∧ ms' = []
theorem l_deck_ok {P : Program} {w : World} {K : PySem.W.Frag} {mg : Str → Option Value} {base : Heap} {f : Addr} {fd : FuncData} (F : FnP K "_law_deck" s_l_deck f fd) (g_abs : mg "abs" = none) (g_int : mg "int" = none) (g_len : mg "len" = none) : FnG P w K mg base 1 f fd ["script"] (spR K 1 [] l_deckR) := by
  refine fn_body (k := 0) F sc_l_deck rfl (by decide) (by decide) (by decide) (by rintro ms r ms' ⟨script, out, _, rfl, _, rfl⟩; exact ⟨rfl, rfl⟩) ?_
  rintro cdv A outer s H E H0 io pin mio hpin hr hG ms r ms' ⟨script, out, h, rfl, rfl, rfl⟩
  refine ⟨[none, none, none, none, none], ?_, fun k i m h1 h2 => by simp at h1⟩
  unfold l_deck_m at h
  obtain ⟨p12, hp12, h_⟩ := bsplit h; replace h := h_; clear h_
  obtain ⟨p13, hp13, h_⟩ := bsplit h; replace h := h_; clear h_
  refine ss_cons (Γ1 := [some (.im (D.lst ((script).map D.int))), some (.im (D.lst ((p13.2).map D.int))), some (.im (D.int (15910 + (7 * ((script).length : Int))))), none, none]) (s_par2 (Γ1 := [some (.im (D.lst ((script).map D.int))), none, none, none, none]) (m1 := (.im (D.lst ((p13.2).map D.int)))) (m2 := (.im (D.int (15910 + (7 * ((script).length : Int)))))) 1 2 rfl sc_l_deck.nd rfl rfl (by decide) rfl rfl (np1 hpin (by decide)) (np1 hpin (by decide)) trivial trivial (ea_cons (ee_lock (ee_lc (f := (fun (st : Unit) (x : Int) => some ((), some ((2 * (if x < 0 then -x else x)) + (if (decide (x < 0)) = true then 1 else 0))))) (enc := D.int) (eb := D.int) (xs := ((cutL script none (some 63)))) (s0 := ()) (hx := (fun v => .hid (.li (((cutL script none (some 63))).map D.int)) v)) (cond := (fun _ => True)) (Γs := fun (st : Unit) => [some (.im (D.lst ((script).map D.int))), none, none, none, none]) (Γt := fun (st : Unit) (x : Int) => [some (.im (D.lst ((script).map D.int))), none, none, none, some (.im (D.int x))]) (Γu := fun (st : Unit) (x : Int) => [some (.im (D.lst ((script).map D.int))), none, none, none, some (.im (D.int x))]) (tb := (fun _ _ => true)) rfl sc_l_deck.nd (blkOk_by (own := [("own", 4)]) (N := N_l_deck) (sc := defScope s_l_deck) (by decide +kernel))
   { fx := Fix.hid, it := it_wk (Γ1 := [some (.im (D.lst ((script).map D.int))), none, none, none, none]) (it_lstH (ee_slLE (enc := D.int) (ee_var 0 (pv 0)) ep_none (ep_some ee_int) .fz)) ⟨rfl, trivial⟩, cd := fun _ => trivial, gt := fun s H Ca cl fp v q acc st x => (gt_name 4 sc_l_deck.nd rfl (by first | exact Or.inl rfl | exact Or.inr rfl) (np1 hpin (by decide)) ⟨trivial, ⟨trivial, trivial⟩⟩ (by decide)), tt := fun s H Ca cl fp v q acc st x => tests0,
        el := fun s H Ca cl fp v q acc st x st' y hk hf => by
            obtain ⟨hf1, hf2⟩ := Prod.mk.inj (Option.some.inj hf); subst hf1; replace hf2 := Option.some.inj hf2; subst hf2; exact ee_wk (Γ1 := [some (.im (D.lst ((script).map D.int))), none, none, none, some (.im (D.int x))]) (ee_add (ee_mul (.inl ⟨by decide, by decide⟩) ee_int (ee_abs g_abs (ee_var 4 (pv 4)))) (ee_intB g_int (ee_lt (ee_var 4 (pv 4)) ee_int))) ⟨rfl, trivial⟩,
        ft := fun st x r hk hf => by
            cases hf; exact ⟨_, rfl⟩,
        ff := fun st x r hk hf => Bool.noConfusion hk, br := fun _ => (bare_cons rfl bare_nil), fr := (freeJ_cons trivial freeJ_nil), fh := fun v => (freeJ_cons ⟨trivial, trivial⟩ freeJ_nil), pn := pnJ hpin (by decide), ln := (gd_d hp12) }
   hp13)) (ea_cons (ee_add ee_int (ee_mul (.inl ⟨by decide, by decide⟩) ee_int (ee_lenLE (enc := D.int) g_len (ee_var 0 (pv 0)) .fz))) ea_nil))) ?_
  obtain ⟨p15, hp15, h_⟩ := bsplit h; replace h := h_; clear h_
  refine ss_cons (Γ1 := [some (.im (D.lst ((script).map D.int))), some (.im (D.lst ((p13.2).map D.int))), some (.im (D.int p15)), none, none]) (s_for (J := [3]) (enc := D.int) (xs := (p13.2)) (hx := (fun v => .hid (.im (.lst ((p13.2).map D.int))) v)) (cond := (fun _ => True)) (f := l_deck_L1) (s0 := (15910 + (7 * ((script).length : Int)))) (Γs := fun (s14 : Int) => [some (.im (D.lst ((script).map D.int))), some (.im (D.lst ((p13.2).map D.int))), some (.im (D.int s14)), none, none]) (Γt := fun (s14 : Int) (x14 : Int) => [some (.im (D.lst ((script).map D.int))), some (.im (D.lst ((p13.2).map D.int))), some (.im (D.int s14)), some (.im (D.int x14)), none]) rfl Fix.hid (it_wk (Γ1 := [some (.im (D.lst ((script).map D.int))), some (.im (D.lst ((p13.2).map D.int))), some (.im (D.int (15910 + (7 * ((script).length : Int))))), none, none]) (it_lstF (ee_var 1 (pv 1))) ⟨rfl, ⟨rfl, ⟨rfl, trivial⟩⟩⟩) (fun _ => trivial) ?_ ?_ hp15) ?_
  · intro v14 s14 x14
    exact (gt_name 3 sc_l_deck.nd rfl (by first | exact Or.inl rfl | exact Or.inr rfl) (np1 hpin (by decide)) ⟨trivial, trivial⟩ (by decide))
  · intro v14 s14 x14 s_14 hf14
    unfold l_deck_L1 at hf14
    refine ss_cons (Γ1 := [some (.im (D.lst ((script).map D.int))), some (.im (D.lst ((p13.2).map D.int))), some (.im (D.int ((((s14 * 48271) + x14) + 1) % 4294967291))), some (.im (D.int x14)), none]) (s_set (Γ1 := [some (.im (D.lst ((script).map D.int))), some (.im (D.lst ((p13.2).map D.int))), some (.im (D.int s14)), some (.im (D.int x14)), none]) (m := (.im (D.int ((((s14 * 48271) + x14) + 1) % 4294967291)))) 2 sc_l_deck.nd rfl (by first | exact Or.inl rfl | exact Or.inr rfl) (np1 hpin (by decide)) (ee_mod (by decide) (ee_intI g_int (ee_add (ee_add (ee_mul (.inr ⟨by decide, by decide⟩) (ee_var 2 (pv 2)) ee_int) (ee_var 3 (pv 3))) ee_int)) ee_int) ⟨trivial, trivial⟩) ?_
    replace hf14 := Option.some.inj hf14
    subst hf14
    exact ss_nil ⟨rfl, ⟨rfl, ⟨rfl, trivial⟩⟩⟩
  obtain ⟨p16, hp16, h_⟩ := bsplit h; replace h := h_; clear h_
  obtain ⟨p17, hp17, h_⟩ := bsplit h; replace h := h_; clear h_
  replace h := Option.some.inj h
  subst h
  exact ss_exit (s_ret (m := (Deck.m (Deck.mk (p17.2).reverse p15 0))) (ee_dsp (kn := [.inr "great", .inr "se\x61l", .inr "turn"]) (ms := [(.li (((p17.2).reverse).map D.int)), (.im (D.int p15)), (.im (D.int 0))]) (eps_cons ee_str (ee_revLE (enc := D.int) (ee_lc (f := (fun (st : Unit) (x : Int) => some ((), if (decide ((10 ^ 18) ≤ x)) = true then some x else none))) (enc := D.int) (eb := D.int) (xs := (p13.2)) (s0 := ()) (hx := (fun v => .hid (.im (.lst ((p13.2).map D.int))) v)) (cond := (fun _ => True)) (Γs := fun (st : Unit) => [some (.im (D.lst ((script).map D.int))), some (.im (D.lst ((p13.2).map D.int))), some (.im (D.int p15)), none, none]) (Γt := fun (st : Unit) (x : Int) => [some (.im (D.lst ((script).map D.int))), some (.im (D.lst ((p13.2).map D.int))), some (.im (D.int p15)), some (.im (D.int x)), none]) (Γu := fun (st : Unit) (x : Int) => [some (.im (D.lst ((script).map D.int))), some (.im (D.lst ((p13.2).map D.int))), some (.im (D.int p15)), some (.im (D.int x)), none]) (tb := (fun st x => (decide ((10 ^ 18) ≤ x)))) rfl sc_l_deck.nd (blkOk_by (own := [("cell", 3)]) (N := N_l_deck) (sc := defScope s_l_deck) (by decide +kernel))
   { fx := Fix.hid, it := it_wk (Γ1 := [some (.im (D.lst ((script).map D.int))), some (.im (D.lst ((p13.2).map D.int))), some (.im (D.int p15)), none, none]) (it_lstF (ee_var 1 (pv 1))) ⟨rfl, ⟨rfl, ⟨rfl, trivial⟩⟩⟩, cd := fun _ => trivial, gt := fun s H Ca cl fp v q acc st x => (gt_name 3 sc_l_deck.nd rfl (by first | exact Or.inl rfl | exact Or.inr rfl) (np1 hpin (by decide)) ⟨trivial, ⟨trivial, ⟨trivial, trivial⟩⟩⟩ (by decide)), tt := fun s H Ca cl fp v q acc st x => tests1 (et_ge (ee_var 3 (pv 3)) (ee_pow ⟨by decide, by decide, by decide +kernel⟩ ee_int ee_int)),
        el := fun s H Ca cl fp v q acc st x st' y hk hf => by
            rw [if_t hk] at hf; obtain ⟨hf1, hf2⟩ := Prod.mk.inj (Option.some.inj hf); subst hf1; replace hf2 := Option.some.inj hf2; subst hf2; exact ee_wk (Γ1 := [some (.im (D.lst ((script).map D.int))), some (.im (D.lst ((p13.2).map D.int))), some (.im (D.int p15)), some (.im (D.int x)), none]) (ee_var 3 (pv 3)) ⟨rfl, ⟨rfl, ⟨rfl, trivial⟩⟩⟩,
        ft := fun st x r hk hf => by cases hf; exact ⟨_, if_t hk⟩,
        ff := fun st x r hk hf => by cases hf; exact ⟨if_f hk, ⟨rfl, ⟨rfl, ⟨rfl, trivial⟩⟩⟩⟩, br := fun _ => (bare_cons rfl bare_nil), fr := (freeJ_cons ⟨trivial, trivial⟩ freeJ_nil), fh := fun v => (freeJ_cons ⟨trivial, trivial⟩ freeJ_nil), pn := pnJ hpin (by decide), ln := (gd_d hp16) }
   hp17) .own) (eps_cons ee_str (ee_var 2 (pv 2)) (eps_cons ee_str ee_int eps_nil))) (by simp) (by decide) (by decide)) trivial) rfl
abbrev s_l_draw : Stmt := top 6
abbrev N_draw : List Str := ["deck", "many", "cell", "one", "two"]
theorem sc_draw : FnScope N_draw ["deck", "many"] (defScope s_l_draw) := ⟨rfl, rfl, rfl, by decide +kernel, rfl, by decide +kernel, by decide +kernel⟩
theorem draw_ok {P : Program} {w : World} {K : PySem.W.Frag} {mg : Str → Option Value} {base : Heap} {f : Addr} {fd : FuncData} (F : FnP K "_law_draw" s_l_draw f fd) (g_int : mg "int" = none) : FnG P w K mg base 1 f fd ["deck", "many"] (spR K 2 [0] drawR) := by
  refine fn_body (k := 0) F sc_draw rfl (by decide) (by decide) (by decide) (by rintro ms r ms' ⟨deck, many, out, _, rfl, _, rfl⟩; exact ⟨rfl, rfl⟩) ?_
  rintro cdv A outer s H E H0 io pin mio hpin hr hG ms r ms' ⟨deck, many, out, h, rfl, rfl, rfl⟩
  refine ⟨[some (Deck.m out.2), none, none, none, none], ?_, fun k i m h1 h2 => match k, h1, h2 with | 0, h1, h2 => by cases h1; cases h2; rfl⟩
  unfold draw_m at h
  rcases Bool.eq_false_or_eq_true (decide (many < 2)) with hk | hk
  · replace h := (if_t hk).symm.trans h
    cases h
    refine ss_exit (s_if (et_lt (ee_var 1 (pv 1)) ee_int) (fun _ => ?_) (fun z => absurd (hk.symm.trans z) (by decide))) rfl
    exact ss_one (s_ret (m := .im (.int 0)) ee_int ⟨rfl, trivial⟩)
  replace h := (if_f hk).symm.trans h
  have pos : 0 < many := by have := of_decide_eq_false hk; omega
  refine ss_cons (Γ1 := [some (Deck.m deck), some (.im (.int many)), none, none, none]) (s_if (et_lt (ee_var 1 (pv 1)) ee_int) (fun z => absurd (hk.symm.trans z) (by decide)) (fun _ => ss_nil ⟨rfl, rfl, trivial⟩)) ?_
  rcases Bool.eq_false_or_eq_true (!deck.great.isEmpty) with hg | hg
  · replace h := (if_t hg).symm.trans h
    obtain ⟨cell, hc, h⟩ := bsplit h
    refine ss_exit (s_if (et_neNilZE (xs := deck.great) hr.units 0 (sub_k hr.units) (pv 0) rfl ee_str Deck.great_sub (oks_map _ fun _ _ => rfl)) (fun _ => ?_) (fun z => absurd (hg.symm.trans z) (by decide))) rfl
    refine ss_cons (Γ1 := [some (Deck.m ⟨deck.great.dropLast, deck.mix, deck.turn⟩), some (.im (.int many)), some (.im (.int cell)), none, none]) (s_set (m := .im (.int cell)) 2 sc_draw.nd rfl (Or.inl rfl) (np1 hpin (by decide)) (ee_popZE (xs := deck.great) (x := cell) (enc := D.int) 0 (sub_k hr.units) (pv 0) rfl ee_str Deck.great_sub hc Deck.great_chg) trivial) ?_
    rcases Bool.eq_false_or_eq_true (decide (many ≤ cell)) with hm | hm
    · replace h := (if_t hm).symm.trans h
      obtain ⟨_, h1, h⟩ := bsplit h
      obtain ⟨_, h2, h⟩ := bsplit h
      cases h
      refine ss_cons (Γ1 := [some (Deck.m ⟨deck.great.dropLast ++ [cell / many], deck.mix, deck.turn⟩), some (.im (.int many)), some (.im (.int cell)), none, none]) (s_if (et_ge (ee_var 2 (pv 2)) (ee_var 1 (pv 1))) (fun _ => ?_) (fun z => absurd (hm.symm.trans z) (by decide))) ?_
      · exact ss_cons (s_expr (ee_appZE (xs := deck.great.dropLast) (x := cell / many) (enc := D.int) 0 (sub_k hr.units) (pv 0) rfl ee_str Deck.great_sub (eq_fdivW (gd_d h1) (eq_var 2 (pv 2)) (eq_var 1 (pv 1))) (gd_d h2) Deck.great_chg)) (ss_nil ⟨rfl, rfl, rfl, trivial⟩)
      · exact ss_one (s_ret (m := .im (.int (cell % many))) (ee_mod pos (ee_intI g_int (ee_var 2 (pv 2))) (ee_var 1 (pv 1))) ⟨rfl, trivial⟩)
    · replace h := (if_f hm).symm.trans h
      cases h
      refine ss_cons (Γ1 := [some (Deck.m ⟨deck.great.dropLast, deck.mix, deck.turn⟩), some (.im (.int many)), some (.im (.int cell)), none, none]) (s_if (et_ge (ee_var 2 (pv 2)) (ee_var 1 (pv 1))) (fun z => absurd (hm.symm.trans z) (by decide)) (fun _ => ss_nil ⟨rfl, rfl, rfl, trivial⟩)) ?_
      exact ss_one (s_ret (m := .im (.int (cell % many))) (ee_mod pos (ee_intI g_int (ee_var 2 (pv 2))) (ee_var 1 (pv 1))) ⟨rfl, trivial⟩)
  replace h := (if_f hg).symm.trans h
  cases h
  refine ss_cons (Γ1 := [some (Deck.m deck), some (.im (.int many)), none, none, none]) (s_if (et_neNilZE (xs := deck.great) hr.units 0 (sub_k hr.units) (pv 0) rfl ee_str Deck.great_sub (oks_map _ fun _ _ => rfl)) (fun z => absurd (hg.symm.trans z) (by decide)) (fun _ => ss_nil ⟨rfl, rfl, trivial⟩)) ?_
  refine ss_cons (Γ1 := [some (Deck.m ⟨deck.great, deck.mix, deck.turn + 1⟩), some (.im (.int many)), none, none, none]) (s_putTurn (d := deck) hr.units 0 (pv 0) (ee_add (ee_dTurn hr.units 0 (pv 0)) ee_int) rfl ee_str) ?_
  refine ss_cons (Γ1 := [some (Deck.m ⟨deck.great, deck.mix, deck.turn + 1⟩), some (.im (.int many)), none, some (.im (.int ((deck.mix + (deck.turn + 1) * 2654435761) % 4294967291))), none]) (s_set (m := .im (.int ((deck.mix + (deck.turn + 1) * 2654435761) % 4294967291))) 3 sc_draw.nd rfl (Or.inl rfl) (np1 hpin (by decide)) (ee_mod (by decide) (ee_intI g_int (ee_add (ee_dMix (d := ⟨deck.great, deck.mix, deck.turn + 1⟩) hr.units 0 (pv 0)) (ee_mul (.inr ⟨by decide, by decide⟩) (ee_dTurn (d := ⟨deck.great, deck.mix, deck.turn + 1⟩) hr.units 0 (pv 0)) ee_int))) ee_int) trivial) ?_
  refine ss_cons (s_set 4 sc_draw.nd rfl (Or.inl rfl) (np1 hpin (by decide)) (ee_mod (by decide) (ee_intI g_int (ee_add (ee_add (ee_mul (modB (b := 4294967291) (by decide) (by decide)) (ee_var 3 (pv 3)) (ee_var 3 (pv 3))) (ee_mul (.inr ⟨by decide, by decide⟩) (ee_dTurn (d := ⟨deck.great, deck.mix, deck.turn + 1⟩) hr.units 0 (pv 0)) ee_int)) ee_int)) ee_int) trivial) ?_
  exact ss_one (s_ret (ee_mod pos (ee_intI g_int (ee_fdivW ⟨by decide, by decide +kernel⟩ (ee_mod (by decide) (ee_intI g_int (ee_add (ee_mul (modB (b := 4294967279) (by decide) (by decide)) (ee_var 4 (pv 4)) (ee_var 4 (pv 4))) (ee_var 3 (pv 3)))) ee_int) ee_int)) (ee_var 1 (pv 1))) ⟨rfl, trivial⟩)

abbrev s_l_pick : Stmt := top 7
theorem sc_pick : FnScope ["deck", "items"] ["deck", "items"] (defScope s_l_pick) := ⟨rfl, rfl, rfl, by decide +kernel, rfl, by decide +kernel, by decide +kernel⟩
theorem pick_ok {P : Program} {w : World} {K : PySem.W.Frag} {mg : Str → Option Value} {base : Heap} {f : Addr} {fd : FuncData} (F : FnP K "_law_pick" s_l_pick f fd) {f_l_draw : Addr} {fd_l_draw : FuncData} (G_l_draw : FnG P w K mg base 1 f_l_draw fd_l_draw ["deck", "many"] (spR K 2 [0] drawR)) (F_l_draw : FnP K "_law_draw" s_l_draw f_l_draw fd_l_draw) (g_l_draw : mg "_law_draw" = some (.ref f_l_draw)) (g_len : mg "len" = none) : FnG P w K mg base 2 f fd ["deck", "items"] (spR K 2 [0] pickR) := by
  refine fn_body (k := 1) F sc_pick rfl (by decide) (by decide) (by decide) (by rintro ms r ms' ⟨deck, items, out, _, e | e, _, rfl⟩ <;> (subst e; exact ⟨rfl, rfl⟩)) ?_
  rintro cdv A outer s H E H0 io pin mio hpin hr hG ms r ms' ⟨deck, items, out, h, hms, rfl, rfl⟩
  have kp := F_l_draw.kp
  have bd : Binds K fd_l_draw ["deck", "many"] [] := F_l_draw.bindsN fun _ _ _ _ _ _ us hl => match us, hl with | [_, _], _ => rfl
  refine ⟨[some (Deck.m out.2), none], ?_, fun k i m h1 h2 => match k, h1, h2 with | 0, h1, h2 => by cases h1; cases h2; rfl⟩
  unfold pick_m at h
  obtain ⟨p1, h1, h⟩ := bsplit h
  obtain ⟨p2, h2, h⟩ := bsplit h
  cases h
  rcases hms with rfl | rfl
  · exact ss_one (s_ret (m := .im p2) (ee_ixL (ee_var 1 (pv 1)) (ee_call (k := 1) G_l_draw hr hG g_l_draw kp bd (ea_cons (ee_tk 0 (pv 0)) (ea_cons (ee_lenL g_len (ee_var 1 (pv 1)) .fz) ea_nil)) ⟨deck, items.length, p1, h1, rfl, rfl, rfl⟩) .fz h2) ⟨rfl, trivial⟩)
  · exact ss_one (s_ret (m := .im p2) (ee_ixT (ee_var 1 (pv 1)) (ee_call (k := 1) G_l_draw hr hG g_l_draw kp bd (ea_cons (ee_tk 0 (pv 0)) (ea_cons (ee_lenT g_len (ee_var 1 (pv 1))) ea_nil)) ⟨deck, items.length, p1, h1, rfl, rfl, rfl⟩) h2) ⟨rfl, trivial⟩)

abbrev s_l_same : Stmt := top 8
theorem sc_same : FnScope ["found", "due", "spot", "own"] ["found", "due"] (defScope s_l_same) := ⟨rfl, rfl, rfl, by decide +kernel, rfl, by decide +kernel, by decide +kernel⟩
theorem same_ok {P : Program} {w : World} {K : PySem.W.Frag} {mg : Str → Option Value} {base : Heap} {f : Addr} {fd : FuncData} (F : FnP K "_law_same" s_l_same f fd) (gf : mg "_law_same" = some (.ref f)) (g_isi : mg "isinstance" = none) (g_tuple : mg "tuple" = none) (g_len : mg "len" = none) (g_enum : mg "enumerate" = none) (g_bool : mg "bool" = none) (g_int : mg "int" = none) (g_str : mg "str" = none) : ∀ n, FnG P w K mg base (n + 1) f fd ["found", "due"] (spR K 2 [] (sameR n)) := by
  intro n
  have kp := F.kp
  have bd : Binds K fd ["found", "due"] [] := F.bindsN fun _ _ _ _ _ _ us hl => match us, hl with | [_, _], _ => rfl
  have main : ∀ n : Nat, (∀ m, n = m + 1 → FnG P w K mg base (m + 1) f fd ["found", "due"] (spR K 2 [] (sameR m))) → FnG P w K mg base (n + 1) f fd ["found", "due"] (spR K 2 [] (sameR n)) := by
    intro n ih
    refine fn_body (k := n) F sc_same rfl (by decide) (by decide) (by decide) (by rintro ms r ms' ⟨d, _, rfl, _, rfl⟩; exact ⟨rfl, rfl⟩) ?_
    rintro cdv A outer s H E H0 io pin mio hpin hr hG ms r ms' ⟨d, hd, rfl, rfl, rfl⟩
    refine ⟨[none, none, none, none], ?_, fun k i m h1 h2 => by simp at h1⟩
    have nt := not_ty hd
    have vt : bootBuiltins "tuple" = some (.type "tuple") := by decide +kernel
    have vb : bootBuiltins "bool" = some (.type "bool") := by decide +kernel
    have vi : bootBuiltins "int" = some (.type "int") := by decide +kernel
    have vs : bootBuiltins "str" = some (.type "str") := by decide +kernel
    rcases Bool.eq_false_or_eq_true d.is_tuple with ht | ht
    · -- a tuple
      cases d with
      | tup l =>
        cases n with
        | zero => unfold D.pl at hd; cases hd
        | succ n =>
          have hl : pls n l = true := by unfold D.pl at hd; exact hd
          refine ss_exit (s_if (k := true) (et_val (ee_isi g_isi (ee_var 1 (pv 1)) (ee_ty g_tuple vt) (kit_tuple nt) nt)) (fun _ => ?_) (fun z => absurd z (by decide))) rfl
          refine ss_cons (Γ1 := [some (.im (.tup l)), some (.im (.tup l)), none, none]) (s_if (k := false) (ET.ofW (ew_or (b1 := false) (et_not (et_val (ee_isi g_isi (ee_var 0 (pv 0)) (ee_ty g_tuple vt) (kit_tuple nt) nt))) (fun _ => ew_or1 (et_to (et_neI (ee_lenT g_len (ee_var 0 (pv 0))) (ee_lenT g_len (ee_var 1 (pv 1)))) (by simp))) (fun z => absurd z (by decide)))) (fun z => absurd z (by decide)) (fun _ => ss_nil ⟨rfl, rfl, trivial⟩)) ?_
          have hit := sameF_all hl
          refine ss_cons (Γ1 := [some (.im (.tup l)), some (.im (.tup l)), none, none]) (s_for (J := [2, 3]) (enc := encI eX) (xs := numL l) (hx := fun v => .hid (.im (.tup (l.map eX))) v) (cond := fun _ => True) (f := sameF n l) (s0 := ()) (Γs := fun _ => [some (.im (.tup l)), some (.im (.tup l)), none, none]) (Γt := fun _ x => [some (.im (.tup l)), some (.im (.tup l)), some (.im (.int x.1)), some (.im x.2)]) rfl Fix.hid (it_wk (Γ1 := [some (.im (.tup l)), some (.im (.tup l)), none, none]) (by rw [← enumD_map, map_eX]; exact it_enumT g_enum (ee_var 1 (pv 1))) ⟨rfl, rfl, trivial⟩) (fun _ => trivial) ?_ ?_ hit) ?_
          · intro v st x
            exact gt_tup rfl (gts_cons (gt_name 2 sc_same.nd rfl (Or.inl rfl) (np1 hpin (by decide)) ⟨trivial, trivial⟩ (by decide)) (gts_cons (gt_name 3 sc_same.nd rfl (Or.inl rfl) (np1 hpin (by decide)) ⟨trivial, trivial⟩ (by decide)) gts_nil))
          · intro v st x st' hf
            unfold sameF at hf
            split at hf
            next hx =>
              refine ss_one (s_if (k := false) (et_to (et_not (et_val (ee_call (k := n + 1) (ih n rfl) hr hG gf kp bd (ea_cons (ee_ixT (ee_var 0 (pv 0)) (ee_var 2 (pv 2)) hx.1) (ea_cons (ee_var 3 (pv 3)) ea_nil)) ⟨x.2, hx.2, rfl, rfl, rfl⟩))) rfl) (fun z => absurd z (by decide)) (fun _ => ss_nil ⟨rfl, rfl, trivial⟩))
            next => cases hf
          · exact ss_one (s_ret (m := .im (.bl true)) ee_bl trivial)
      | _ => cases ht
    · refine ss_cons (Γ1 := [some (.im d), some (.im d), none, none]) (s_if (k := false) (et_val (Γ1 := [some (.im d), some (.im d), none, none]) (by rw [← ht]; exact ee_isi g_isi (ee_var 1 (pv 1)) (ee_ty g_tuple vt) (kit_tuple nt) nt)) (fun z => absurd z (by decide)) (fun _ => ss_nil ⟨rfl, rfl, trivial⟩)) ?_
      cases d with
      | tup l => cases ht
      | lst l => cases n <;> (unfold D.pl at hd; cases hd)
      | dct l => cases n <;> (unfold D.pl at hd; cases hd)
      | ty l => exact absurd rfl (nt l)
      | non =>
        refine ss_exit (s_if (k := true) (et_isN (d := .non) (ee_var 1 (pv 1))) (fun _ => ?_) (fun z => absurd z (by decide))) rfl
        exact ss_one (s_ret (m := .im (.bl true)) (ee_isN (d := .non) (ee_var 0 (pv 0))) trivial)
      | bl b =>
        refine ss_cons (Γ1 := [some (.im (.bl b)), some (.im (.bl b)), none, none]) (s_if (k := false) (et_isN (d := .bl b) (ee_var 1 (pv 1))) (fun z => absurd z (by decide)) (fun _ => ss_nil ⟨rfl, rfl, trivial⟩)) ?_
        refine ss_exit (s_if (k := true) (et_val (ee_isi g_isi (ee_var 1 (pv 1)) (ee_ty g_bool vb) (kit_bool nt) nt)) (fun _ => ?_) (fun z => absurd z (by decide))) rfl
        refine ss_one (s_ret (m := .im (.bl true)) (ee_if (k := b) (t := .im (.bl true)) (Γ' := [some (.im (.bl b)), some (.im (.bl b)), none, none]) (et_val (ee_var 1 (pv 1))) (fun hk => ?_) (fun hk => ?_)) trivial)
        · subst hk; exact ee_isB (k := true) (ee_var 0 (pv 0))
        · subst hk; exact ee_isB (k := false) (ee_var 0 (pv 0))
      | int i =>
        refine ss_cons (Γ1 := [some (.im (.int i)), some (.im (.int i)), none, none]) (s_if (k := false) (et_isN (d := .int i) (ee_var 1 (pv 1))) (fun z => absurd z (by decide)) (fun _ => ss_nil ⟨rfl, rfl, trivial⟩)) ?_
        refine ss_cons (Γ1 := [some (.im (.int i)), some (.im (.int i)), none, none]) (s_if (k := false) (et_val (ee_isi g_isi (ee_var 1 (pv 1)) (ee_ty g_bool vb) (kit_bool nt) nt)) (fun z => absurd z (by decide)) (fun _ => ss_nil ⟨rfl, rfl, trivial⟩)) ?_
        refine ss_exit (s_if (k := true) (et_val (ee_isi g_isi (ee_var 1 (pv 1)) (ee_ty g_int vi) (kit_int nt) nt)) (fun _ => ?_) (fun z => absurd z (by decide))) rfl
        refine ss_one (s_ret (m := .im (.bl true)) (ee_andP (b1 := true) (k := true) (ee_isi g_isi (ee_var 0 (pv 0)) (ee_ty g_int vi) (kit_int nt) nt) fun _ => ee_andP (b1 := true) (k := true) (ee_not (k := false) (ee_isi g_isi (ee_var 0 (pv 0)) (ee_ty g_bool vb) (kit_bool nt) nt)) fun _ => ee_one (t := .im (.bl true)) ?_) trivial)
        have z : decide (i = i) = true := by simp
        rw [← z]
        exact ee_eqI (ee_var 0 (pv 0)) (ee_var 1 (pv 1))
      | str i =>
        refine ss_cons (Γ1 := [some (.im (.str i)), some (.im (.str i)), none, none]) (s_if (k := false) (et_isN (d := .str i) (ee_var 1 (pv 1))) (fun z => absurd z (by decide)) (fun _ => ss_nil ⟨rfl, rfl, trivial⟩)) ?_
        refine ss_cons (Γ1 := [some (.im (.str i)), some (.im (.str i)), none, none]) (s_if (k := false) (et_val (ee_isi g_isi (ee_var 1 (pv 1)) (ee_ty g_bool vb) (kit_bool nt) nt)) (fun z => absurd z (by decide)) (fun _ => ss_nil ⟨rfl, rfl, trivial⟩)) ?_
        refine ss_cons (Γ1 := [some (.im (.str i)), some (.im (.str i)), none, none]) (s_if (k := false) (et_val (ee_isi g_isi (ee_var 1 (pv 1)) (ee_ty g_int vi) (kit_int nt) nt)) (fun z => absurd z (by decide)) (fun _ => ss_nil ⟨rfl, rfl, trivial⟩)) ?_
        refine ss_one (s_ret (m := .im (.bl true)) (ee_andP (b1 := true) (k := true) (ee_isi g_isi (ee_var 0 (pv 0)) (ee_ty g_str vs) (kit_str nt) nt) fun _ => ee_one (t := .im (.bl true)) ?_) trivial)
        have z : decide (i = i) = true := by simp
        rw [← z]
        exact ee_eqS (ee_var 0 (pv 0)) (ee_var 1 (pv 1))
  induction n with
  | zero => exact main 0 fun m e => by cases e
  | succ n ih => exact main (n + 1) fun m e => by cases e; exact ih

/-! ### law_way -/
abbrev s_l_way : Stmt := top 9
abbrev N_l_way : List Str := ["deck", "rooms", "most", "count", "steps", "inside", "free", "room"]
theorem sc_l_way : FnScope N_l_way ["deck", "rooms", "most"] (defScope s_l_way) := ⟨rfl, rfl, rfl, by decide +kernel, rfl, by decide +kernel, by decide +kernel⟩
def l_way_L1c (rooms : Int) (s : (Deck × Int × (List (Str × Int)) × (List Int))) : Bool := ((decide (0 < (s.2.1))) || (!((s.2.2.2)).isEmpty))
def l_way_L1 (rooms : Int) (s : (Deck × Int × (List (Str × Int)) × (List Int))) : Option (Deck × Int × (List (Str × Int)) × (List Int)) := (gd (decide (-(2 ^ 62) ≤ rooms))).bind fun p21 => (gd (decide (rooms < 2 ^ 62))).bind fun p22 => (gd (decide (((rng 0 rooms)).length ≤ sizeLine))).bind fun p23 => (lcM (fun (st : Unit) (x : Int) => some ((), if (!(decide (x ∈ (s.2.2.2)))) = true then some x else none)) () (rng 0 rooms)).bind fun p24 => (if (!((s.2.2.2)).isEmpty) = true then ((if (decide ((s.2.1) = 0)) = true then (some (true, (s.1))) else ((if (p24.2).isEmpty = true then (some (true, (s.1))) else ((draw_m (s.1) 5).bind fun p28 => some ((decide ((p28.1) < 2)), (p28.2)))).bind fun p29 => some ((p29.1), (p29.2)))).bind fun p30 => some ((p30.1), (p30.2))) else (some (false, (s.1)))).bind fun p31 => if (p31.1) = true then ((((s.2.2.2)).getLast?).bind fun p32 => (gd (decide (((s.2.2.1)).length < sizeLine))).bind fun p33 => some ((p31.2), (s.2.1), ((s.2.2.1) ++ [(("out" : Str), p32)]), ((s.2.2.2)).dropLast)) else ((pick_m (p31.2) p24.2).bind fun p34 => (gd (decide (((s.2.2.2)).length < sizeLine))).bind fun p35 => (atI ((s.2.2.2) ++ [p34.1]) (-1)).bind fun p36 => (gd (decide (((s.2.2.1)).length < sizeLine))).bind fun p37 => some (p34.2, ((s.2.1) - 1), ((s.2.2.1) ++ [(("in" : Str), p36)]), ((s.2.2.2) ++ [p34.1])))
def l_way_m (deck : Deck) (rooms : Int) (most : Int) : Option ((List (Str × Int)) × Deck) := (draw_m deck (most / 2)).bind fun p18 => (whS (l_way_L1c rooms) (l_way_L1 rooms) 100000 ((p18.2), (1 + (p18.1)), [], [])).bind fun p56 => some ((p56.2.2.1), (p56.1))
abbrev l_wayR : List M → M → List M → Prop := fun ms r ms' => ∃ (deck : Deck) (rooms : Int) (most : Int) (out : ((List (Str × Int)) × Deck)), l_way_m deck rooms most = some out ∧ ms = [(Deck.m deck), (.im (D.int rooms)), (.im (D.int most))] ∧ r = (.im (D.tup (((out.1)).map (eT2 D.str D.int)))) ∧ ms' = [(Deck.m (out.2))]
theorem l_way_ok {P : Program} {w : World} {K : PySem.W.Frag} {mg : Str → Option Value} {base : Heap} {f : Addr} {fd : FuncData} (F : FnP K "_law_way" s_l_way f fd) {f_l_draw : Addr} {fd_l_draw : FuncData} (G_l_draw : FnG P w K mg base 1 f_l_draw fd_l_draw ["deck", "many"] (spR K 2 [0] drawR)) (F_l_draw : FnP K "_law_draw" s_l_draw f_l_draw fd_l_draw) (g_l_draw : mg "_law_draw" = some (.ref f_l_draw)) {f_l_pick : Addr} {fd_l_pick : FuncData} (G_l_pick : FnG P w K mg base 2 f_l_pick fd_l_pick ["deck", "items"] (spR K 2 [0] pickR)) (F_l_pick : FnP K "_law_pick" s_l_pick f_l_pick fd_l_pick) (g_l_pick : mg "_law_pick" = some (.ref f_l_pick)) (g_range : mg "range" = none) (g_tuple : mg "tuple" = none) : FnG P w K mg base 3 f fd ["deck", "rooms", "most"] (spR K 3 [0] l_wayR) := by
  refine fn_body (k := 2) F sc_l_way rfl (by decide) (by decide) (by decide) (by rintro ms r ms' ⟨deck, rooms, most, out, _, rfl, _, rfl⟩; exact ⟨rfl, rfl⟩) ?_
  rintro cdv A outer s H E H0 io pin mio hpin hr hG ms r ms' ⟨deck, rooms, most, out, h, rfl, rfl, rfl⟩
  refine ⟨[some (Deck.m (out.2)), none, none, none, none, none, none, none], ?_, fun k i m h1 h2 => match k, h1, h2 with | 0, h1, h2 => by cases h1; cases h2; rfl⟩
  unfold l_way_m at h
  have kp_l_draw := F_l_draw.kp
  have b_l_draw : Binds K fd_l_draw ["deck", "many"] [] := F_l_draw.bindsN fun _ _ _ _ _ _ us hl => match us, hl with | [_, _], _ => rfl
  have kp_l_pick := F_l_pick.kp
  have b_l_pick : Binds K fd_l_pick ["deck", "items"] [] := F_l_pick.bindsN fun _ _ _ _ _ _ us hl => match us, hl with | [_, _], _ => rfl
  obtain ⟨p18, hp18, h_⟩ := bsplit h; replace h := h_; clear h_
  refine ss_cons (Γ1 := [some (Deck.m (p18.2)), some (.im (D.int rooms)), some (.im (D.int most)), some (.im (D.int (1 + (p18.1)))), some (.li (([]).map (eT2 D.str D.int))), some (.li (([]).map D.int)), none, none]) (s_unp3 (Γ1 := [some (Deck.m (p18.2)), some (.im (D.int rooms)), some (.im (D.int most)), none, none, none, none, none]) (m1 := (.im (D.int (1 + (p18.1))))) (m2 := (.li (([]).map (eT2 D.str D.int)))) (m3 := (.li (([]).map D.int))) 3 4 5 rfl sc_l_way.nd rfl rfl rfl (by decide) (by decide) (by decide) (by first | exact Or.inl rfl | exact Or.inr rfl) (by first | exact Or.inl rfl | exact Or.inr rfl) (by first | exact Or.inl rfl | exact Or.inr rfl) (np1 hpin (by decide)) (np1 hpin (by decide)) (np1 hpin (by decide)) trivial trivial trivial (ea_cons (ee_add ee_int (ee_callX (k := 2) (G_l_draw.mono (by decide)) hr hG g_l_draw kp_l_draw b_l_draw (ea_cons (ee_tk 0 (pv 0)) (ea_cons (ee_fdivW ⟨by decide, by decide +kernel⟩ (ee_var 2 (pv 2)) ee_int) ea_nil)) ⟨deck, (most / 2), p18, hp18, rfl, rfl, rfl⟩)) (ea_cons (ee_lst (ds := []) ea_nil (show 0 ≤ 1000 by decide)) (ea_cons (ee_lst (ds := []) ea_nil (show 0 ≤ 1000 by decide)) ea_nil)))) ?_
  obtain ⟨p56, hp56, h_⟩ := bsplit h; replace h := h_; clear h_
  refine ss_cons (Γ1 := [some (Deck.m (p56.1)), some (.im (D.int rooms)), some (.im (D.int most)), some (.im (D.int (p56.2.1))), some (.li (((p56.2.2.1)).map (eT2 D.str D.int))), some (.li (((p56.2.2.2)).map D.int)), none, none]) (s_while (Γs := fun (s19 : (Deck × Int × (List (Str × Int)) × (List Int))) => [some (Deck.m (s19.1)), some (.im (D.int rooms)), some (.im (D.int most)), some (.im (D.int (s19.2.1))), some (.li (((s19.2.2.1)).map (eT2 D.str D.int))), some (.li (((s19.2.2.2)).map D.int)), none, none]) (s0 := ((p18.2), (1 + (p18.1)), [], [])) (cb := (l_way_L1c rooms)) (f := (l_way_L1 rooms)) ?_ ?_ hp56) ?_
  · intro s19
    exact (ET.ofW (ew_orP (et_gt (ee_var 3 (pv 3)) ee_int) fun _ => (ew_or1 (et_neNilE (enc := D.int) hr.units (ee_al 5 (pv 5)) (.al rfl) (oks_map _ fun _ _ => rfl)))))
  · intro s19 s_19 hk19 hf19
    unfold l_way_L1 at hf19
    obtain ⟨p39, hp39, hf19_⟩ := bsplit hf19; replace hf19 := hf19_; clear hf19_
    obtain ⟨p40, hp40, hf19_⟩ := bsplit hf19; replace hf19 := hf19_; clear hf19_
    obtain ⟨p41, hp41, hf19_⟩ := bsplit hf19; replace hf19 := hf19_; clear hf19_
    obtain ⟨p42, hp42, hf19_⟩ := bsplit hf19; replace hf19 := hf19_; clear hf19_
    refine ss_cons (Γ1 := [some (Deck.m (s19.1)), some (.im (D.int rooms)), some (.im (D.int most)), some (.im (D.int (s19.2.1))), some (.li (((s19.2.2.1)).map (eT2 D.str D.int))), some (.li (((s19.2.2.2)).map D.int)), some (.im (D.lst ((p42.2).map D.int))), none]) (s_lock 6 (Γ1 := [some (Deck.m (s19.1)), some (.im (D.int rooms)), some (.im (D.int most)), some (.im (D.int (s19.2.1))), some (.li (((s19.2.2.1)).map (eT2 D.str D.int))), some (.li (((s19.2.2.2)).map D.int)), some (.li ((p42.2).map D.int)), none]) (s_setLc 6 (f := (fun (st : Unit) (x : Int) => some ((), if (!(decide (x ∈ (s19.2.2.2)))) = true then some x else none))) (enc := D.int) (eb := D.int) (xs := (rng 0 rooms)) (s0 := ()) (hx := (fun v => .hid (.im .non) v)) (cond := (fun _ => True)) (Γs := fun (st : Unit) => [some (Deck.m (s19.1)), some (.im (D.int rooms)), some (.im (D.int most)), some (.im (D.int (s19.2.1))), some (.li (((s19.2.2.1)).map (eT2 D.str D.int))), some (.li (((s19.2.2.2)).map D.int)), none, none]) (Γt := fun (st : Unit) (x : Int) => [some (Deck.m (s19.1)), some (.im (D.int rooms)), some (.im (D.int most)), some (.im (D.int (s19.2.1))), some (.li (((s19.2.2.1)).map (eT2 D.str D.int))), some (.li (((s19.2.2.2)).map D.int)), none, some (.im (D.int x))]) (Γu := fun (st : Unit) (x : Int) => [some (Deck.m (s19.1)), some (.im (D.int rooms)), some (.im (D.int most)), some (.im (D.int (s19.2.1))), some (.li (((s19.2.2.1)).map (eT2 D.str D.int))), some (.li (((s19.2.2.2)).map D.int)), none, some (.im (D.int x))]) (tb := (fun st x => (!(decide (x ∈ (s19.2.2.2)))))) rfl sc_l_way.nd rfl rfl (np1 hpin (by decide)) trivial (blkOk_by (own := [("room", 7)]) (N := N_l_way) (sc := defScope s_l_way) (by decide +kernel))
   { fx := Fix.hid, it := it_wk (Γ1 := [some (Deck.m (s19.1)), some (.im (D.int rooms)), some (.im (D.int most)), some (.im (D.int (s19.2.1))), some (.li (((s19.2.2.1)).map (eT2 D.str D.int))), some (.li (((s19.2.2.2)).map D.int)), none, none]) (it_rng1 g_range (ee_var 1 (pv 1)) (gd_d hp39) (gd_d hp40)) ⟨rfl, ⟨rfl, ⟨rfl, ⟨rfl, ⟨rfl, ⟨rfl, trivial⟩⟩⟩⟩⟩⟩, cd := fun _ => trivial, gt := fun s H Ca cl fp v q acc st x => (gt_name 7 sc_l_way.nd rfl (by first | exact Or.inl rfl | exact Or.inr rfl) (np1 hpin (by decide)) ⟨trivial, ⟨trivial, trivial⟩⟩ (by decide)), tt := fun s H Ca cl fp v q acc st x => tests1 (et_ninI (ee_var 7 (pv 7)) (ee_al 5 (pv 5)) (.l (.al rfl))),
        el := fun s H Ca cl fp v q acc st x st' y hk hf => by
            rw [if_t hk] at hf; obtain ⟨hf1, hf2⟩ := Prod.mk.inj (Option.some.inj hf); subst hf1; replace hf2 := Option.some.inj hf2; subst hf2; exact ee_wk (Γ1 := [some (Deck.m (s19.1)), some (.im (D.int rooms)), some (.im (D.int most)), some (.im (D.int (s19.2.1))), some (.li (((s19.2.2.1)).map (eT2 D.str D.int))), some (.li (((s19.2.2.2)).map D.int)), none, some (.im (D.int x))]) (ee_var 7 (pv 7)) ⟨rfl, ⟨rfl, ⟨rfl, ⟨rfl, ⟨rfl, ⟨rfl, trivial⟩⟩⟩⟩⟩⟩,
        ft := fun st x r hk hf => by cases hf; exact ⟨_, if_t hk⟩,
        ff := fun st x r hk hf => by cases hf; exact ⟨if_f hk, ⟨rfl, ⟨rfl, ⟨rfl, ⟨rfl, ⟨rfl, ⟨rfl, trivial⟩⟩⟩⟩⟩⟩⟩, br := fun _ => (bare_cons rfl bare_nil), fr := (freeJ_cons trivial freeJ_nil), fh := fun v => (freeJ_cons ⟨trivial, trivial⟩ freeJ_nil), pn := pnJ hpin (by decide), ln := (gd_d hp41) }
   hp42 (sw_true rfl rfl rfl (by decide +kernel))) rfl) ?_
    obtain ⟨p49, hp49, hf19_⟩ := bsplit hf19; replace hf19 := hf19_; clear hf19_
    refine ss_one (s_if (ET.ofW (ew_and (Γ' := [some (Deck.m (p49.2)), some (.im (D.int rooms)), some (.im (D.int most)), some (.im (D.int (s19.2.1))), some (.li (((s19.2.2.1)).map (eT2 D.str D.int))), some (.li (((s19.2.2.2)).map D.int)), some (.im (D.lst ((p42.2).map D.int))), none]) (k := (p49.1)) (et_neNilE (enc := D.int) hr.units (ee_al 5 (pv 5)) (.al rfl) (oks_map _ fun _ _ => rfl)) (fun hk => by
            have e43 := (if_t hk).symm.trans hp49; obtain ⟨p48, hp48, e43_⟩ := bsplit e43; replace e43 := e43_; clear e43_; replace e43 := Option.some.inj e43; subst e43; exact (ew_and1 (ET.ofW (ew_or (Γ' := [some (Deck.m (p48.2)), some (.im (D.int rooms)), some (.im (D.int most)), some (.im (D.int (s19.2.1))), some (.li (((s19.2.2.1)).map (eT2 D.str D.int))), some (.li (((s19.2.2.2)).map D.int)), some (.im (D.lst ((p42.2).map D.int))), none]) (k := (p48.1)) (et_eqI (ee_var 3 (pv 3)) ee_int) (fun hk => by
            have e44 := (if_f hk).symm.trans hp48; obtain ⟨p47, hp47, e44_⟩ := bsplit e44; replace e44 := e44_; clear e44_; replace e44 := Option.some.inj e44; subst e44; exact (ew_or (Γ' := [some (Deck.m (p47.2)), some (.im (D.int rooms)), some (.im (D.int most)), some (.im (D.int (s19.2.1))), some (.li (((s19.2.2.1)).map (eT2 D.str D.int))), some (.li (((s19.2.2.2)).map D.int)), some (.im (D.lst ((p42.2).map D.int))), none]) (k := (p47.1)) (et_eqNilE (enc := D.int) hr.units (ee_var 6 (pv 6)) .fz (oks_map _ fun _ _ => rfl)) (fun hk => by
            have e45 := (if_f hk).symm.trans hp47; obtain ⟨p46, hp46, e45_⟩ := bsplit e45; replace e45 := e45_; clear e45_; replace e45 := Option.some.inj e45; subst e45; exact (ew_or1 (et_lt (ee_callX (k := 2) (G_l_draw.mono (by decide)) hr hG g_l_draw kp_l_draw b_l_draw (ea_cons (ee_tk 0 (pv 0)) (ea_cons ee_int ea_nil)) ⟨(s19.1), 5, p46, hp46, rfl, rfl, rfl⟩) ee_int))) (fun hk => by have hq := (if_t hk).symm.trans hp47; cases hq; exact ⟨rfl, rfl⟩))) (fun hk => by have hq := (if_t hk).symm.trans hp48; cases hq; exact ⟨rfl, rfl⟩))))) (fun hk => by have hq := (if_f hk).symm.trans hp49; cases hq; exact ⟨rfl, rfl⟩))) (fun hk => ?_) (fun hk => ?_))
    · replace hf19 := (if_t hk).symm.trans hf19
      obtain ⟨p50, hp50, hf19_⟩ := bsplit hf19; replace hf19 := hf19_; clear hf19_
      obtain ⟨p51, hp51, hf19_⟩ := bsplit hf19; replace hf19 := hf19_; clear hf19_
      refine ss_cons (Γ1 := [some (Deck.m (p49.2)), some (.im (D.int rooms)), some (.im (D.int most)), some (.im (D.int (s19.2.1))), some (.li ((((s19.2.2.1) ++ [(("out" : Str), p50)])).map (eT2 D.str D.int))), some (.li ((((s19.2.2.2)).dropLast).map D.int)), some (.im (D.lst ((p42.2).map D.int))), none]) (s_expr (t := .own (.im D.non)) (ee_appendE (Γ1 := [some (Deck.m (p49.2)), some (.im (D.int rooms)), some (.im (D.int most)), some (.im (D.int (s19.2.1))), some (.li (((s19.2.2.1)).map (eT2 D.str D.int))), some (.li ((((s19.2.2.2)).dropLast).map D.int)), some (.im (D.lst ((p42.2).map D.int))), none]) (enc := (eT2 D.str D.int)) (x := (("out" : Str), p50)) 4 (pv 4) rfl (ee_tup (ds := [(D.str ("out" : Str)), (D.int p50)]) (ea_cons ee_str (ea_cons (ee_popE (enc := D.int) 5 (pv 5) rfl hp50) ea_nil)) (show 2 ≤ 1000 by decide)) rfl (gd_d hp51))) ?_
      replace hf19 := Option.some.inj hf19
      subst hf19
      exact ss_nil ⟨rfl, ⟨rfl, ⟨rfl, ⟨rfl, ⟨rfl, ⟨rfl, trivial⟩⟩⟩⟩⟩⟩
    · replace hf19 := (if_f hk).symm.trans hf19
      obtain ⟨p52, hp52, hf19_⟩ := bsplit hf19; replace hf19 := hf19_; clear hf19_
      obtain ⟨p53, hp53, hf19_⟩ := bsplit hf19; replace hf19 := hf19_; clear hf19_
      refine ss_cons (Γ1 := [some (Deck.m p52.2), some (.im (D.int rooms)), some (.im (D.int most)), some (.im (D.int (s19.2.1))), some (.li (((s19.2.2.1)).map (eT2 D.str D.int))), some (.li ((((s19.2.2.2) ++ [p52.1])).map D.int)), some (.im (D.lst ((p42.2).map D.int))), none]) (s_expr (t := .own (.im D.non)) (ee_appendE (Γ1 := [some (Deck.m p52.2), some (.im (D.int rooms)), some (.im (D.int most)), some (.im (D.int (s19.2.1))), some (.li (((s19.2.2.1)).map (eT2 D.str D.int))), some (.li (((s19.2.2.2)).map D.int)), some (.im (D.lst ((p42.2).map D.int))), none]) (enc := D.int) (x := p52.1) 5 (pv 5) rfl (ee_callX (k := 2) (G_l_pick.mono (by decide)) hr hG g_l_pick kp_l_pick b_l_pick (ea_cons (ee_tk 0 (pv 0)) (ea_cons (ee_var 6 (pv 6)) ea_nil)) ⟨(p49.2), (p42.2).map D.int, ((D.int p52.1), p52.2), pick_map D.int hp52, .inl rfl, rfl, rfl⟩) rfl (gd_d hp53))) ?_
      obtain ⟨p54, hp54, hf19_⟩ := bsplit hf19; replace hf19 := hf19_; clear hf19_
      obtain ⟨p55, hp55, hf19_⟩ := bsplit hf19; replace hf19 := hf19_; clear hf19_
      refine ss_cons (Γ1 := [some (Deck.m p52.2), some (.im (D.int rooms)), some (.im (D.int most)), some (.im (D.int (s19.2.1))), some (.li ((((s19.2.2.1) ++ [(("in" : Str), p54)])).map (eT2 D.str D.int))), some (.li ((((s19.2.2.2) ++ [p52.1])).map D.int)), some (.im (D.lst ((p42.2).map D.int))), none]) (s_expr (t := .own (.im D.non)) (ee_appendE (Γ1 := [some (Deck.m p52.2), some (.im (D.int rooms)), some (.im (D.int most)), some (.im (D.int (s19.2.1))), some (.li (((s19.2.2.1)).map (eT2 D.str D.int))), some (.li ((((s19.2.2.2) ++ [p52.1])).map D.int)), some (.im (D.lst ((p42.2).map D.int))), none]) (enc := (eT2 D.str D.int)) (x := (("in" : Str), p54)) 4 (pv 4) rfl (ee_tup (ds := [(D.str ("in" : Str)), (D.int p54)]) (ea_cons ee_str (ea_cons (ee_ixLE (enc := D.int) (ee_al 5 (pv 5)) ee_negc (.al rfl) hp54) ea_nil)) (show 2 ≤ 1000 by decide)) rfl (gd_d hp55))) ?_
      refine ss_cons (Γ1 := [some (Deck.m p52.2), some (.im (D.int rooms)), some (.im (D.int most)), some (.im (D.int ((s19.2.1) - 1))), some (.li ((((s19.2.2.1) ++ [(("in" : Str), p54)])).map (eT2 D.str D.int))), some (.li ((((s19.2.2.2) ++ [p52.1])).map D.int)), some (.im (D.lst ((p42.2).map D.int))), none]) (s_set (Γ1 := [some (Deck.m p52.2), some (.im (D.int rooms)), some (.im (D.int most)), some (.im (D.int (s19.2.1))), some (.li ((((s19.2.2.1) ++ [(("in" : Str), p54)])).map (eT2 D.str D.int))), some (.li ((((s19.2.2.2) ++ [p52.1])).map D.int)), some (.im (D.lst ((p42.2).map D.int))), none]) (m := (.im (D.int ((s19.2.1) - 1)))) 3 sc_l_way.nd rfl (by first | exact Or.inl rfl | exact Or.inr rfl) (np1 hpin (by decide)) (ee_sub (ee_var 3 (pv 3)) ee_int) trivial) ?_
      replace hf19 := Option.some.inj hf19
      subst hf19
      exact ss_nil ⟨rfl, ⟨rfl, ⟨rfl, ⟨rfl, ⟨rfl, ⟨rfl, trivial⟩⟩⟩⟩⟩⟩
  replace h := Option.some.inj h
  subst h
  exact ss_exit (s_ret (m := (.im (D.tup (((p56.2.2.1)).map (eT2 D.str D.int))))) (ee_tupOf (ds := List.map (eT2 D.str D.int) (p56.2.2.1)) g_tuple (ee_al 4 (pv 4)) (.al rfl)) ⟨rfl, trivial⟩) rfl
/-! ### law_long_way -/
abbrev s_l_long_way : Stmt := top 10
abbrev N_l_long_way : List Str := ["deck", "rooms", "pairs", "inner", "around", "found", "room", "turn", "own"]
theorem sc_l_long_way : FnScope N_l_long_way ["deck", "rooms", "pairs"] (defScope s_l_long_way) := ⟨rfl, rfl, rfl, by decide +kernel, rfl, by decide +kernel, by decide +kernel⟩
def l_long_way_L1  (s : (List (Str × Int))) (x : Int) : Option (List (Str × Int)) := (gd (decide ((s).length + ([(("in" : Str), x), (("out" : Str), x)]).length ≤ sizeLine))).bind fun p74 => some (s ++ [(("in" : Str), x), (("out" : Str), x)])
def l_long_way_m (deck : Deck) (rooms : Int) (pairs : Int) : Option ((List (Str × Int)) × Deck) := (gd (decide (-(2 ^ 62) ≤ pairs))).bind fun p57 => (gd (decide (pairs < 2 ^ 62))).bind fun p58 => (gd (decide (((rng 0 pairs)).length ≤ sizeLine))).bind fun p59 => (lcM (fun (st : Deck) (x : Int) => (draw_m st rooms).bind fun p60 => some ((p60.2), some (p60.1))) deck (rng 0 pairs)).bind fun p61 => (draw_m (p61.1) (rooms + 2)).bind fun p62 => (if ((decide ((p62.1) < rooms)) && (decide (1 < rooms))) = true then ((gd (decide ((((cutL p61.2 (some 1) none))).length ≤ sizeLine))).bind fun p66 => (lcM (fun (st : Unit) (x : Int) => (if (!(decide (x = (p62.1)))) = true then (some x) else ((gd (decide (0 < rooms))).bind fun p69 => some ((x + 1) % rooms))).bind fun p70 => some ((), some p70)) () ((cutL p61.2 (some 1) none))).bind fun p71 => some p71.2) else (some p61.2)).bind fun p72 => (forS l_long_way_L1 [] (p72)).bind fun p76 => (if ((decide ((p62.1) < rooms)) && (decide (1 < rooms))) = true then ((gd (decide (([(("in" : Str), (p62.1))]).length + (p76).length ≤ sizeLine))).bind fun p80 => (gd (decide ((([(("in" : Str), (p62.1))] ++ p76)).length + ([(("out" : Str), (p62.1))]).length ≤ sizeLine))).bind fun p81 => some (([(("in" : Str), (p62.1))] ++ p76) ++ [(("out" : Str), (p62.1))])) else (some p76)).bind fun p82 => some (p82, (p62.2))
abbrev l_long_wayR : List M → M → List M → Prop := fun ms r ms' => ∃ (deck : Deck) (rooms : Int) (pairs : Int) (out : ((List (Str × Int)) × Deck)), l_long_way_m deck rooms pairs = some out ∧ ms = [(Deck.m deck), (.im (D.int rooms)), (.im (D.int pairs))] ∧ r = (.im (D.tup (((out.1)).map (eT2 D.str D.int)))) ∧ ms' = [(Deck.m (out.2))]
theorem l_long_way_ok {P : Program} {w : World} {K : PySem.W.Frag} {mg : Str → Option Value} {base : Heap} {f : Addr} {fd : FuncData} (F : FnP K "_law_long_way" s_l_long_way f fd) {f_l_draw : Addr} {fd_l_draw : FuncData} (G_l_draw : FnG P w K mg base 1 f_l_draw fd_l_draw ["deck", "many"] (spR K 2 [0] drawR)) (F_l_draw : FnP K "_law_draw" s_l_draw f_l_draw fd_l_draw) (g_l_draw : mg "_law_draw" = some (.ref f_l_draw)) (g_int : mg "int" = none) (g_range : mg "range" = none) (g_tuple : mg "tuple" = none) : FnG P w K mg base 2 f fd ["deck", "rooms", "pairs"] (spR K 3 [0] l_long_wayR) := by
  refine fn_body (k := 1) F sc_l_long_way rfl (by decide) (by decide) (by decide) (by rintro ms r ms' ⟨deck, rooms, pairs, out, _, rfl, _, rfl⟩; exact ⟨rfl, rfl⟩) ?_
  rintro cdv A outer s H E H0 io pin mio hpin hr hG ms r ms' ⟨deck, rooms, pairs, out, h, rfl, rfl, rfl⟩
  refine ⟨[some (Deck.m (out.2)), none, none, none, none, none, none, none, none], ?_, fun k i m h1 h2 => match k, h1, h2 with | 0, h1, h2 => by cases h1; cases h2; rfl⟩
  unfold l_long_way_m at h
  have kp_l_draw := F_l_draw.kp
  have b_l_draw : Binds K fd_l_draw ["deck", "many"] [] := F_l_draw.bindsN fun _ _ _ _ _ _ us hl => match us, hl with | [_, _], _ => rfl
  obtain ⟨p57, hp57, h_⟩ := bsplit h; replace h := h_; clear h_
  obtain ⟨p58, hp58, h_⟩ := bsplit h; replace h := h_; clear h_
  obtain ⟨p59, hp59, h_⟩ := bsplit h; replace h := h_; clear h_
  obtain ⟨p61, hp61, h_⟩ := bsplit h; replace h := h_; clear h_
  refine ss_cons (Γ1 := [some (Deck.m (p61.1)), some (.im (D.int rooms)), some (.im (D.int pairs)), some (.li ((p61.2).map D.int)), none, none, none, none, none]) (s_setLc 3 (f := (fun (st : Deck) (x : Int) => (draw_m st rooms).bind fun p60 => some ((p60.2), some (p60.1)))) (enc := D.int) (eb := D.int) (xs := (rng 0 pairs)) (s0 := deck) (hx := (fun v => .hid (.im .non) v)) (cond := (fun _ => True)) (Γs := fun (st : Deck) => [some (Deck.m st), some (.im (D.int rooms)), some (.im (D.int pairs)), none, none, none, none, none, none]) (Γt := fun (st : Deck) (x : Int) => [some (Deck.m st), some (.im (D.int rooms)), some (.im (D.int pairs)), none, none, none, none, some (.im (D.int x)), none]) (Γu := fun (st : Deck) (x : Int) => [some (Deck.m st), some (.im (D.int rooms)), some (.im (D.int pairs)), none, none, none, none, some (.im (D.int x)), none]) (tb := (fun _ _ => true)) rfl sc_l_long_way.nd rfl rfl (np1 hpin (by decide)) trivial (blkOk_by (own := [("turn", 7)]) (N := N_l_long_way) (sc := defScope s_l_long_way) (by decide +kernel))
   { fx := Fix.hid, it := it_wk (Γ1 := [some (Deck.m deck), some (.im (D.int rooms)), some (.im (D.int pairs)), none, none, none, none, none, none]) (it_rng1 g_range (ee_var 2 (pv 2)) (gd_d hp57) (gd_d hp58)) ⟨rfl, ⟨rfl, ⟨rfl, trivial⟩⟩⟩, cd := fun _ => trivial, gt := fun s H Ca cl fp v q acc st x => (gt_name 7 sc_l_long_way.nd rfl (by first | exact Or.inl rfl | exact Or.inr rfl) (np1 hpin (by decide)) ⟨trivial, ⟨trivial, trivial⟩⟩ (by decide)), tt := fun s H Ca cl fp v q acc st x => tests0,
        el := fun s H Ca cl fp v q acc st x st' y hk hf => by
            obtain ⟨p60, hp60, hf_⟩ := bsplit hf; replace hf := hf_; clear hf_; obtain ⟨hf1, hf2⟩ := Prod.mk.inj (Option.some.inj hf); subst hf1; replace hf2 := Option.some.inj hf2; subst hf2; exact ee_wk (Γ1 := [some (Deck.m (p60.2)), some (.im (D.int rooms)), some (.im (D.int pairs)), none, none, none, none, some (.im (D.int x)), none]) (ee_callX (k := 1) (G_l_draw.mono (by decide)) hr hG g_l_draw kp_l_draw b_l_draw (ea_cons (ee_tk 0 (pv 0)) (ea_cons (ee_var 1 (pv 1)) ea_nil)) ⟨st, rooms, p60, hp60, rfl, rfl, rfl⟩) ⟨rfl, ⟨rfl, ⟨rfl, trivial⟩⟩⟩,
        ft := fun st x r hk hf => by
            obtain ⟨p60, hp60, hf_⟩ := bsplit hf; replace hf := hf_; clear hf_; cases hf; exact ⟨_, rfl⟩,
        ff := fun st x r hk hf => Bool.noConfusion hk, br := fun _ => (bare_cons rfl bare_nil), fr := (freeJ_cons trivial freeJ_nil), fh := fun v => (freeJ_cons ⟨trivial, trivial⟩ freeJ_nil), pn := pnJ hpin (by decide), ln := (gd_d hp59) }
   hp61 (sw_true rfl rfl rfl (by decide +kernel))) ?_
  obtain ⟨p62, hp62, h_⟩ := bsplit h; replace h := h_; clear h_
  refine ss_cons (Γ1 := [some (Deck.m (p62.2)), some (.im (D.int rooms)), some (.im (D.int pairs)), some (.li ((p61.2).map D.int)), some (.im (D.int (p62.1))), none, none, none, none]) (s_set (Γ1 := [some (Deck.m (p62.2)), some (.im (D.int rooms)), some (.im (D.int pairs)), some (.li ((p61.2).map D.int)), none, none, none, none, none]) (m := (.im (D.int (p62.1)))) 4 sc_l_long_way.nd rfl (by first | exact Or.inl rfl | exact Or.inr rfl) (np1 hpin (by decide)) (ee_callX (k := 1) (G_l_draw.mono (by decide)) hr hG g_l_draw kp_l_draw b_l_draw (ea_cons (ee_tk 0 (pv 0)) (ea_cons (ee_add (ee_var 1 (pv 1)) ee_int) ea_nil)) ⟨(p61.1), (rooms + 2), p62, hp62, rfl, rfl, rfl⟩) trivial) ?_
  obtain ⟨p72, hp72, h_⟩ := bsplit h; replace h := h_; clear h_
  refine ss_cons (Γ1 := [some (Deck.m (p62.2)), some (.im (D.int rooms)), some (.im (D.int pairs)), some (.li ((p72).map D.int)), some (.im (D.int (p62.1))), none, none, none, none]) (s_if (ET.ofW (ew_andP (et_lt (ee_var 4 (pv 4)) (ee_var 1 (pv 1))) fun _ => (ew_and1 (et_gt (ee_var 1 (pv 1)) ee_int)))) (fun hk => ?_) (fun hk => ?_)) ?_
  · have e64 := (if_t hk).symm.trans hp72
    obtain ⟨p66, hp66, e64_⟩ := bsplit e64; replace e64 := e64_; clear e64_
    obtain ⟨p71, hp71, e64_⟩ := bsplit e64; replace e64 := e64_; clear e64_
    refine ss_cons (Γ1 := [some (Deck.m (p62.2)), some (.im (D.int rooms)), some (.im (D.int pairs)), some (.li ((p71.2).map D.int)), some (.im (D.int (p62.1))), none, none, none, none]) (s_setLc 3 (f := (fun (st : Unit) (x : Int) => (if (!(decide (x = (p62.1)))) = true then (some x) else ((gd (decide (0 < rooms))).bind fun p69 => some ((x + 1) % rooms))).bind fun p70 => some ((), some p70))) (enc := D.int) (eb := D.int) (xs := ((cutL p61.2 (some 1) none))) (s0 := ()) (hx := (fun v => .hid (.li (((cutL p61.2 (some 1) none)).map D.int)) v)) (cond := (fun _ => True)) (Γs := fun (st : Unit) => [some (Deck.m (p62.2)), some (.im (D.int rooms)), some (.im (D.int pairs)), some (.li ((p61.2).map D.int)), some (.im (D.int (p62.1))), none, none, none, none]) (Γt := fun (st : Unit) (x : Int) => [some (Deck.m (p62.2)), some (.im (D.int rooms)), some (.im (D.int pairs)), some (.li ((p61.2).map D.int)), some (.im (D.int (p62.1))), none, none, none, some (.im (D.int x))]) (Γu := fun (st : Unit) (x : Int) => [some (Deck.m (p62.2)), some (.im (D.int rooms)), some (.im (D.int pairs)), some (.li ((p61.2).map D.int)), some (.im (D.int (p62.1))), none, none, none, some (.im (D.int x))]) (tb := (fun _ _ => true)) rfl sc_l_long_way.nd rfl rfl (np1 hpin (by decide)) trivial (blkOk_by (own := [("own", 8)]) (N := N_l_long_way) (sc := defScope s_l_long_way) (by decide +kernel))
   { fx := Fix.hid, it := it_wk (Γ1 := [some (Deck.m (p62.2)), some (.im (D.int rooms)), some (.im (D.int pairs)), some (.li ((p61.2).map D.int)), some (.im (D.int (p62.1))), none, none, none, none]) (it_lstH (ee_slLE (enc := D.int) (ee_al 3 (pv 3)) (ep_some ee_int) ep_none (.al rfl))) ⟨rfl, ⟨rfl, ⟨rfl, ⟨rfl, ⟨rfl, trivial⟩⟩⟩⟩⟩, cd := fun _ => trivial, gt := fun s H Ca cl fp v q acc st x => (gt_name 8 sc_l_long_way.nd rfl (by first | exact Or.inl rfl | exact Or.inr rfl) (np1 hpin (by decide)) ⟨trivial, ⟨trivial, trivial⟩⟩ (by decide)), tt := fun s H Ca cl fp v q acc st x => tests0,
        el := fun s H Ca cl fp v q acc st x st' y hk hf => by
            obtain ⟨p70, hp70, hf_⟩ := bsplit hf; replace hf := hf_; clear hf_; obtain ⟨hf1, hf2⟩ := Prod.mk.inj (Option.some.inj hf); subst hf1; replace hf2 := Option.some.inj hf2; subst hf2; exact ee_wk (Γ1 := [some (Deck.m (p62.2)), some (.im (D.int rooms)), some (.im (D.int pairs)), some (.li ((p61.2).map D.int)), some (.im (D.int (p62.1))), none, none, none, some (.im (D.int x))]) (ee_if (t := .own (.im (D.int p70))) (Γ' := [some (Deck.m (p62.2)), some (.im (D.int rooms)), some (.im (D.int pairs)), some (.li ((p61.2).map D.int)), some (.im (D.int (p62.1))), none, none, none, some (.im (D.int x))]) (et_neI (ee_var 8 (pv 8)) (ee_var 4 (pv 4))) (fun hk => by
            have e67 := (if_t hk).symm.trans hp70; replace e67 := Option.some.inj e67; subst e67; exact (ee_var 8 (pv 8))) (fun hk => by
            have e68 := (if_f hk).symm.trans hp70; obtain ⟨p69, hp69, e68_⟩ := bsplit e68; replace e68 := e68_; clear e68_; replace e68 := Option.some.inj e68; subst e68; exact (ee_mod (gd_d hp69) (ee_intI g_int (ee_add (ee_var 8 (pv 8)) ee_int)) (ee_var 1 (pv 1))))) ⟨rfl, ⟨rfl, ⟨rfl, ⟨rfl, ⟨rfl, trivial⟩⟩⟩⟩⟩,
        ft := fun st x r hk hf => by
            obtain ⟨p70, hp70, hf_⟩ := bsplit hf; replace hf := hf_; clear hf_; cases hf; exact ⟨_, rfl⟩,
        ff := fun st x r hk hf => Bool.noConfusion hk, br := fun _ => (bare_cons rfl bare_nil), fr := (freeJ_cons trivial freeJ_nil), fh := fun v => (freeJ_cons ⟨trivial, trivial⟩ freeJ_nil), pn := pnJ hpin (by decide), ln := (gd_d hp66) }
   hp71 (sw_true rfl rfl rfl (by decide +kernel))) ?_
    replace e64 := Option.some.inj e64
    subst e64
    exact ss_nil ⟨rfl, ⟨rfl, ⟨rfl, ⟨rfl, ⟨rfl, trivial⟩⟩⟩⟩⟩
  · have e65 := (if_f hk).symm.trans hp72
    replace e65 := Option.some.inj e65
    subst e65
    exact ss_nil ⟨rfl, ⟨rfl, ⟨rfl, ⟨rfl, ⟨rfl, trivial⟩⟩⟩⟩⟩
  refine ss_cons (Γ1 := [some (Deck.m (p62.2)), some (.im (D.int rooms)), some (.im (D.int pairs)), some (.li ((p72).map D.int)), some (.im (D.int (p62.1))), some (.li (([]).map (eT2 D.str D.int))), none, none, none]) (s_set (Γ1 := [some (Deck.m (p62.2)), some (.im (D.int rooms)), some (.im (D.int pairs)), some (.li ((p72).map D.int)), some (.im (D.int (p62.1))), none, none, none, none]) (m := (.li (([]).map (eT2 D.str D.int)))) 5 sc_l_long_way.nd rfl (by first | exact Or.inl rfl | exact Or.inr rfl) (np1 hpin (by decide)) (ee_lst (ds := []) ea_nil (show 0 ≤ 1000 by decide)) trivial) ?_
  obtain ⟨p76, hp76, h_⟩ := bsplit h; replace h := h_; clear h_
  refine ss_cons (Γ1 := [some (Deck.m (p62.2)), some (.im (D.int rooms)), some (.im (D.int pairs)), some (.li ((p72).map D.int)), some (.im (D.int (p62.1))), some (.li ((p76).map (eT2 D.str D.int))), none, none, none]) (s_for (J := [6]) (enc := D.int) (xs := (p72)) (hx := (fun v => .hal 3 v)) (cond := (fun G => G[3]? = some (some (.li ((p72).map D.int))))) (f := l_long_way_L1) (s0 := []) (Γs := fun (s73 : (List (Str × Int))) => [some (Deck.m (p62.2)), some (.im (D.int rooms)), some (.im (D.int pairs)), some (.li ((p72).map D.int)), some (.im (D.int (p62.1))), some (.li ((s73).map (eT2 D.str D.int))), none, none, none]) (Γt := fun (s73 : (List (Str × Int))) (x73 : Int) => [some (Deck.m (p62.2)), some (.im (D.int rooms)), some (.im (D.int pairs)), some (.li ((p72).map D.int)), some (.im (D.int (p62.1))), some (.li ((s73).map (eT2 D.str D.int))), some (.im (D.int x73)), none, none]) rfl Fix.hal (it_wk (Γ1 := [some (Deck.m (p62.2)), some (.im (D.int rooms)), some (.im (D.int pairs)), some (.li ((p72).map D.int)), some (.im (D.int (p62.1))), some (.li (([]).map (eT2 D.str D.int))), none, none, none]) (it_lstV 3 (ee_al 3 (pv 3)) rfl) ⟨rfl, ⟨rfl, ⟨rfl, ⟨rfl, ⟨rfl, ⟨rfl, trivial⟩⟩⟩⟩⟩⟩) (fun _ => rfl) ?_ ?_ hp76) ?_
  · intro v73 s73 x73
    exact (gt_name 6 sc_l_long_way.nd rfl (by first | exact Or.inl rfl | exact Or.inr rfl) (np1 hpin (by decide)) ⟨(show (3 : Nat) ≠ 6 by decide), trivial⟩ (by decide))
  · intro v73 s73 x73 s_73 hf73
    unfold l_long_way_L1 at hf73
    obtain ⟨p75, hp75, hf73_⟩ := bsplit hf73; replace hf73 := hf73_; clear hf73_
    refine ss_cons (Γ1 := [some (Deck.m (p62.2)), some (.im (D.int rooms)), some (.im (D.int pairs)), some (.li ((p72).map D.int)), some (.im (D.int (p62.1))), some (.li (((s73 ++ [(("in" : Str), x73), (("out" : Str), x73)])).map (eT2 D.str D.int))), some (.im (D.int x73)), none, none]) (s_expr (t := .own (.im D.non)) (ee_extendE (Γ1 := [some (Deck.m (p62.2)), some (.im (D.int rooms)), some (.im (D.int pairs)), some (.li ((p72).map D.int)), some (.im (D.int (p62.1))), some (.li ((s73).map (eT2 D.str D.int))), some (.im (D.int x73)), none, none]) (ys := [(("in" : Str), x73), (("out" : Str), x73)]) (enc := (eT2 D.str D.int)) 5 (pv 5) rfl (ee_lst (ds := List.map (eT2 D.str D.int) [(("in" : Str), x73), (("out" : Str), x73)]) (ea_cons (ee_tup (ds := [(D.str ("in" : Str)), (D.int x73)]) (ea_cons ee_str (ea_cons (ee_var 6 (pv 6)) ea_nil)) (show 2 ≤ 1000 by decide)) (ea_cons (ee_tup (ds := [(D.str ("out" : Str)), (D.int x73)]) (ea_cons ee_str (ea_cons (ee_var 6 (pv 6)) ea_nil)) (show 2 ≤ 1000 by decide)) ea_nil)) (show 2 ≤ 1000 by decide)) rfl .own (gd_d hp75))) ?_
    replace hf73 := Option.some.inj hf73
    subst hf73
    exact ss_nil ⟨rfl, ⟨rfl, ⟨rfl, ⟨rfl, ⟨rfl, ⟨rfl, trivial⟩⟩⟩⟩⟩⟩
  obtain ⟨p82, hp82, h_⟩ := bsplit h; replace h := h_; clear h_
  refine ss_cons (Γ1 := [some (Deck.m (p62.2)), some (.im (D.int rooms)), some (.im (D.int pairs)), some (.li ((p72).map D.int)), some (.im (D.int (p62.1))), some (.li ((p82).map (eT2 D.str D.int))), none, none, none]) (s_if (ET.ofW (ew_andP (et_lt (ee_var 4 (pv 4)) (ee_var 1 (pv 1))) fun _ => (ew_and1 (et_gt (ee_var 1 (pv 1)) ee_int)))) (fun hk => ?_) (fun hk => ?_)) ?_
  · have e78 := (if_t hk).symm.trans hp82
    obtain ⟨p80, hp80, e78_⟩ := bsplit e78; replace e78 := e78_; clear e78_
    obtain ⟨p81, hp81, e78_⟩ := bsplit e78; replace e78 := e78_; clear e78_
    refine ss_cons (Γ1 := [some (Deck.m (p62.2)), some (.im (D.int rooms)), some (.im (D.int pairs)), some (.li ((p72).map D.int)), some (.im (D.int (p62.1))), some (.li (((([(("in" : Str), (p62.1))] ++ p76) ++ [(("out" : Str), (p62.1))])).map (eT2 D.str D.int))), none, none, none]) (s_set (Γ1 := [some (Deck.m (p62.2)), some (.im (D.int rooms)), some (.im (D.int pairs)), some (.li ((p72).map D.int)), some (.im (D.int (p62.1))), some (.li ((p76).map (eT2 D.str D.int))), none, none, none]) (m := (.li (((([(("in" : Str), (p62.1))] ++ p76) ++ [(("out" : Str), (p62.1))])).map (eT2 D.str D.int)))) 5 sc_l_long_way.nd rfl (by first | exact Or.inl rfl | exact Or.inr rfl) (np1 hpin (by decide)) (ee_catE (enc := (eT2 D.str D.int)) (ee_catE (enc := (eT2 D.str D.int)) (ee_lst (ds := List.map (eT2 D.str D.int) [(("in" : Str), (p62.1))]) (ea_cons (ee_tup (ds := [(D.str ("in" : Str)), (D.int (p62.1))]) (ea_cons ee_str (ea_cons (ee_var 4 (pv 4)) ea_nil)) (show 2 ≤ 1000 by decide)) ea_nil) (show 1 ≤ 1000 by decide)) (ee_al 5 (pv 5)) .own (.al rfl) (gd_d hp80)) (ee_lst (ds := List.map (eT2 D.str D.int) [(("out" : Str), (p62.1))]) (ea_cons (ee_tup (ds := [(D.str ("out" : Str)), (D.int (p62.1))]) (ea_cons ee_str (ea_cons (ee_var 4 (pv 4)) ea_nil)) (show 2 ≤ 1000 by decide)) ea_nil) (show 1 ≤ 1000 by decide)) .own .own (gd_d hp81)) trivial) ?_
    replace e78 := Option.some.inj e78
    subst e78
    exact ss_nil ⟨rfl, ⟨rfl, ⟨rfl, ⟨rfl, ⟨rfl, ⟨rfl, trivial⟩⟩⟩⟩⟩⟩
  · have e79 := (if_f hk).symm.trans hp82
    replace e79 := Option.some.inj e79
    subst e79
    exact ss_nil ⟨rfl, ⟨rfl, ⟨rfl, ⟨rfl, ⟨rfl, ⟨rfl, trivial⟩⟩⟩⟩⟩⟩
  replace h := Option.some.inj h
  subst h
  exact ss_exit (s_ret (m := (.im (D.tup ((p82).map (eT2 D.str D.int))))) (ee_tupOf (ds := List.map (eT2 D.str D.int) p82) g_tuple (ee_al 5 (pv 5)) (.al rfl)) ⟨rfl, trivial⟩) rfl
/-! ### law_held -/
abbrev s_l_held : Stmt := top 11
abbrev N_l_held : List Str := ["way", "place", "inside", "word", "room"]
theorem sc_l_held : FnScope N_l_held ["way", "place"] (defScope s_l_held) := ⟨rfl, rfl, rfl, by decide +kernel, rfl, by decide +kernel, by decide +kernel⟩
def l_held_L1  (s : (List Int)) (x : (Str × Int)) : Option (List Int) := if (decide ((x.1) = ("in" : Str))) = true then ((gd (decide ((s).length < sizeLine))).bind fun p84 => some (s ++ [(x.2)])) else (((s).getLast?).bind fun p85 => some (s).dropLast)
def l_held_m (way : (List (Str × Int))) (place : Int) : Option (List Int) := (forS l_held_L1 [] ((cutL way none (some place)))).bind fun p88 => some p88
abbrev l_heldR : List M → M → List M → Prop := fun ms r ms' => ∃ (way : (List (Str × Int))) (place : Int) (out : (List Int)), l_held_m way place = some out ∧ ms = [(.im (D.tup ((way).map (eT2 D.str D.int)))), (.im (D.int place))] ∧ r = (.im (D.tup ((out).map D.int))) ∧ ms' = []
theorem l_held_ok {P : Program} {w : World} {K : PySem.W.Frag} {mg : Str → Option Value} {base : Heap} {f : Addr} {fd : FuncData} (F : FnP K "_law_held" s_l_held f fd) (g_tuple : mg "tuple" = none) : FnG P w K mg base 1 f fd ["way", "place"] (spR K 2 [] l_heldR) := by
  refine fn_body (k := 0) F sc_l_held rfl (by decide) (by decide) (by decide) (by rintro ms r ms' ⟨way, place, out, _, rfl, _, rfl⟩; exact ⟨rfl, rfl⟩) ?_
  rintro cdv A outer s H E H0 io pin mio hpin hr hG ms r ms' ⟨way, place, out, h, rfl, rfl, rfl⟩
  refine ⟨[none, none, none, none, none], ?_, fun k i m h1 h2 => by simp at h1⟩
  unfold l_held_m at h
  refine ss_cons (Γ1 := [some (.im (D.tup ((way).map (eT2 D.str D.int)))), some (.im (D.int place)), some (.li (([]).map D.int)), none, none]) (s_set (Γ1 := [some (.im (D.tup ((way).map (eT2 D.str D.int)))), some (.im (D.int place)), none, none, none]) (m := (.li (([]).map D.int))) 2 sc_l_held.nd rfl (by first | exact Or.inl rfl | exact Or.inr rfl) (np1 hpin (by decide)) (ee_lst (ds := []) ea_nil (show 0 ≤ 1000 by decide)) trivial) ?_
  obtain ⟨p88, hp88, h_⟩ := bsplit h; replace h := h_; clear h_
  refine ss_cons (Γ1 := [some (.im (D.tup ((way).map (eT2 D.str D.int)))), some (.im (D.int place)), some (.li ((p88).map D.int)), none, none]) (s_for (J := [3, 4]) (enc := (eT2 D.str D.int)) (xs := ((cutL way none (some place)))) (hx := (fun v => .hid (.im (.tup (((cutL way none (some place))).map (eT2 D.str D.int)))) v)) (cond := (fun _ => True)) (f := l_held_L1) (s0 := []) (Γs := fun (s83 : (List Int)) => [some (.im (D.tup ((way).map (eT2 D.str D.int)))), some (.im (D.int place)), some (.li ((s83).map D.int)), none, none]) (Γt := fun (s83 : (List Int)) (x83 : (Str × Int)) => [some (.im (D.tup ((way).map (eT2 D.str D.int)))), some (.im (D.int place)), some (.li ((s83).map D.int)), some (.im (D.str (x83.1))), some (.im (D.int (x83.2)))]) rfl Fix.hid (it_wk (Γ1 := [some (.im (D.tup ((way).map (eT2 D.str D.int)))), some (.im (D.int place)), some (.li (([]).map D.int)), none, none]) (it_tup (ee_slTE (enc := (eT2 D.str D.int)) (ee_var 0 (pv 0)) ep_none (ep_some (ee_var 1 (pv 1))))) ⟨rfl, ⟨rfl, ⟨rfl, trivial⟩⟩⟩) (fun _ => trivial) ?_ ?_ hp88) ?_
  · intro v83 s83 x83
    exact (gt_tup rfl (gts_cons (gt_name 3 sc_l_held.nd rfl (by first | exact Or.inl rfl | exact Or.inr rfl) (np1 hpin (by decide)) ⟨trivial, trivial⟩ (by decide)) (gts_cons (gt_name 4 sc_l_held.nd rfl (by first | exact Or.inl rfl | exact Or.inr rfl) (np1 hpin (by decide)) ⟨trivial, trivial⟩ (by decide)) gts_nil)))
  · intro v83 s83 x83 s_83 hf83
    unfold l_held_L1 at hf83
    refine ss_one (s_if (et_eqS (ee_var 3 (pv 3)) ee_str) (fun hk => ?_) (fun hk => ?_))
    · replace hf83 := (if_t hk).symm.trans hf83
      obtain ⟨p86, hp86, hf83_⟩ := bsplit hf83; replace hf83 := hf83_; clear hf83_
      refine ss_cons (Γ1 := [some (.im (D.tup ((way).map (eT2 D.str D.int)))), some (.im (D.int place)), some (.li (((s83 ++ [(x83.2)])).map D.int)), some (.im (D.str (x83.1))), some (.im (D.int (x83.2)))]) (s_expr (t := .own (.im D.non)) (ee_appendE (Γ1 := [some (.im (D.tup ((way).map (eT2 D.str D.int)))), some (.im (D.int place)), some (.li ((s83).map D.int)), some (.im (D.str (x83.1))), some (.im (D.int (x83.2)))]) (enc := D.int) (x := (x83.2)) 2 (pv 2) rfl (ee_var 4 (pv 4)) rfl (gd_d hp86))) ?_
      replace hf83 := Option.some.inj hf83
      subst hf83
      exact ss_nil ⟨rfl, ⟨rfl, ⟨rfl, trivial⟩⟩⟩
    · replace hf83 := (if_f hk).symm.trans hf83
      obtain ⟨p87, hp87, hf83_⟩ := bsplit hf83; replace hf83 := hf83_; clear hf83_
      refine ss_cons (Γ1 := [some (.im (D.tup ((way).map (eT2 D.str D.int)))), some (.im (D.int place)), some (.li (((s83).dropLast).map D.int)), some (.im (D.str (x83.1))), some (.im (D.int (x83.2)))]) (s_expr (t := .own (.im (D.int p87))) (ee_popE (enc := D.int) 2 (pv 2) rfl hp87)) ?_
      replace hf83 := Option.some.inj hf83
      subst hf83
      exact ss_nil ⟨rfl, ⟨rfl, ⟨rfl, trivial⟩⟩⟩
  replace h := Option.some.inj h
  subst h
  exact ss_exit (s_ret (m := (.im (D.tup ((p88).map D.int)))) (ee_tupOf (ds := List.map D.int p88) g_tuple (ee_al 2 (pv 2)) (.al rfl)) trivial) rfl
/-! ### law -/
abbrev s_law : Stmt := top 12
abbrev N_law : List Str := ["script", "deck", "turn", "rooms", "way", "kept", "due", "place", "step", "rooms_due", "wish_due", "told"]
theorem sc_law : FnScope N_law ["script"] (defScope s_law) := ⟨rfl, rfl, rfl, by decide +kernel, rfl, by decide +kernel, by decide +kernel⟩
def law_L2 (way : (List (Str × Int))) (s : Unit) (x : (Int × (Str × Int))) : Option (Out Unit Bool) := (l_held_m way (x.1)).bind fun p113 => (held_m way (x.1)).bind fun p116 => (wish_m way (x.1)).bind fun p117 => (gd (decide (((p116, p117).1) = p113))).bind fun p118 => (if (!true) = true then (some true) else ((gd (decide (((p116, p117).2) = (if (decide (((x.2).1) = ("in" : Str))) = true then (some ((x.2).2)) else none)))).bind fun p120 => some (!true))).bind fun p121 => if p121 = true then (some (.rt false)) else ((held_m way (x.1)).bind fun p123 => (gd (decide (p123 = p113))).bind fun p124 => (if (!true) = true then (some true) else ((wish_m way (x.1)).bind fun p126 => (gd (decide (p126 = (if (decide (((x.2).1) = ("in" : Str))) = true then (some ((x.2).2)) else none)))).bind fun p127 => some (!true))).bind fun p128 => if p128 = true then (some (.rt false)) else (some (.nx ())))
def law_L1  (s : Deck) (x : Int) : Option (Out Deck Bool) := (draw_m s 6).bind fun p91 => (if (decide (x = 4)) = true then ((l_long_way_m (p91.2) (1 + (p91.1)) 12).bind fun p94 => some ((p94.1), (p94.2))) else ((pick_m (p91.2) [2, 6, 12, 24]).bind fun p95 => (l_way_m p95.2 (1 + (p91.1)) p95.1).bind fun p96 => some ((p96.1), (p96.2)))).bind fun p97 => (shDD (D.tup (((p97.1)).map (eT2 D.str D.int)))).bind fun p98 => (gd (decide (((numL (p97.1))).length ≤ sizeLine))).bind fun p99 => (lcM (fun (st : Unit) (x : (Int × (Str × Int))) => some ((), if (decide (((x.2).1) = ("in" : Str))) = true then some (x.1) else none)) () (numL (p97.1))).bind fun p100 => (if (decide (x = 2)) = true then ((entries_m (p97.1)).bind fun p103 => some p103) else ((entries_m (p97.1)).bind fun p104 => some p104)).bind fun p105 => (gd (decide (p105 = p100.2))).bind fun p106 => (if (!true) = true then (some true) else ((entries_m (p97.1)).bind fun p108 => (gd (decide (p108 = p100.2))).bind fun p109 => some (!true))).bind fun p110 => if p110 = true then (some (.rt false)) else ((forO (law_L2 (p97.1)) () (numL (p97.1))).bind fun p145 => p145.k (fun q146 => (shDD (D.tup (((p97.1)).map (eT2 D.str D.int)))).bind fun p147 => if (!(decide (p147 = p98))) = true then (some (.rt false)) else (some (.nx (p97.2)))) (fun r => some (.rt r)))
def law_m (script : (List Int)) : Option Bool := (l_deck_m script).bind fun p89 => (forO law_L1 p89 (rng 0 5)).bind fun p205 => p205.k (fun q206 => some true) (fun r => some r)
abbrev lawR : List M → M → List M → Prop := fun ms r ms' => ∃ (script : (List Int)) (out : Bool), law_m script = some out ∧ ms = [(.im (D.lst ((script).map D.int)))] ∧ r = (.im (D.bl out)) ∧ ms' = []
theorem law_ok {P : Program} {w : World} {K : PySem.W.Frag} {mg : Str → Option Value} {base : Heap} {f : Addr} {fd : FuncData} (F : FnP K "law" s_law f fd) {f_held : Addr} {fd_held : FuncData} (G_held : FnG P w K mg base 1 f_held fd_held ["way", "place"] (spR K 2 [] heldR)) (F_held : FnP K "held" s_held f_held fd_held) (g_held : mg "held" = some (.ref f_held)) {f_wish : Addr} {fd_wish : FuncData} (G_wish : FnG P w K mg base 1 f_wish fd_wish ["way", "place"] (spR K 2 [] wishR)) (F_wish : FnP K "wish" s_wish f_wish fd_wish) (g_wish : mg "wish" = some (.ref f_wish)) {f_entries : Addr} {fd_entries : FuncData} (G_entries : FnG P w K mg base 1 f_entries fd_entries ["way"] (spR K 1 [] entriesR)) (F_entries : FnP K "entries" s_entries f_entries fd_entries) (g_entries : mg "entries" = some (.ref f_entries)) {f_l_deck : Addr} {fd_l_deck : FuncData} (G_l_deck : FnG P w K mg base 1 f_l_deck fd_l_deck ["script"] (spR K 1 [] l_deckR)) (F_l_deck : FnP K "_law_deck" s_l_deck f_l_deck fd_l_deck) (g_l_deck : mg "_law_deck" = some (.ref f_l_deck)) {f_l_draw : Addr} {fd_l_draw : FuncData} (G_l_draw : FnG P w K mg base 1 f_l_draw fd_l_draw ["deck", "many"] (spR K 2 [0] drawR)) (F_l_draw : FnP K "_law_draw" s_l_draw f_l_draw fd_l_draw) (g_l_draw : mg "_law_draw" = some (.ref f_l_draw)) {f_l_pick : Addr} {fd_l_pick : FuncData} (G_l_pick : FnG P w K mg base 2 f_l_pick fd_l_pick ["deck", "items"] (spR K 2 [0] pickR)) (F_l_pick : FnP K "_law_pick" s_l_pick f_l_pick fd_l_pick) (g_l_pick : mg "_law_pick" = some (.ref f_l_pick)) {f_l_same : Addr} {fd_l_same : FuncData} (G_l_same : FnG P w K mg base 5 f_l_same fd_l_same ["found", "due"] (spR K 2 [] (sameR 4))) (F_l_same : FnP K "_law_same" s_l_same f_l_same fd_l_same) (g_l_same : mg "_law_same" = some (.ref f_l_same)) {f_l_way : Addr} {fd_l_way : FuncData} (G_l_way : FnG P w K mg base 3 f_l_way fd_l_way ["deck", "rooms", "most"] (spR K 3 [0] l_wayR)) (F_l_way : FnP K "_law_way" s_l_way f_l_way fd_l_way) (g_l_way : mg "_law_way" = some (.ref f_l_way)) {f_l_long_way : Addr} {fd_l_long_way : FuncData} (G_l_long_way : FnG P w K mg base 2 f_l_long_way fd_l_long_way ["deck", "rooms", "pairs"] (spR K 3 [0] l_long_wayR)) (F_l_long_way : FnP K "_law_long_way" s_l_long_way f_l_long_way fd_l_long_way) (g_l_long_way : mg "_law_long_way" = some (.ref f_l_long_way)) {f_l_held : Addr} {fd_l_held : FuncData} (G_l_held : FnG P w K mg base 1 f_l_held fd_l_held ["way", "place"] (spR K 2 [] l_heldR)) (F_l_held : FnP K "_law_held" s_l_held f_l_held fd_l_held) (g_l_held : mg "_law_held" = some (.ref f_l_held)) (g_enumerate : mg "enumerate" = none) (g_range : mg "range" = none) (g_repr : mg "repr" = none) (g_tuple : mg "tuple" = none) : FnG P w K mg base 6 f fd ["script"] (spR K 1 [] lawR) := by
  refine fn_body (k := 5) F sc_law rfl (by decide) (by decide) (by decide) (by rintro ms r ms' ⟨script, out, _, rfl, _, rfl⟩; exact ⟨rfl, rfl⟩) ?_
  rintro cdv A outer s H E H0 io pin mio hpin hr hG ms r ms' ⟨script, out, h, rfl, rfl, rfl⟩
  refine ⟨[none, none, none, none, none, none, none, none, none, none, none, none], ?_, fun k i m h1 h2 => by simp at h1⟩
  unfold law_m at h
  have kp_held := F_held.kp
  have b_held : Binds K fd_held ["way", "place"] [] := F_held.bindsN fun _ _ _ _ _ _ us hl => match us, hl with | [_, _], _ => rfl
  have ks_held : KBinds K fd_held ["way", "place"] ["place", "way"] swp swp := kbinds_of F_held (fun kV doc pm an cdv ct us ws hl => by
        match us, ws, hl with
        | [], [_, _], _ => rfl
        | [], [], hl => cases hl
        | [], [_], hl => cases hl
        | [], _ :: _ :: _ :: _, hl => cases hl
        | _ :: _, _, hl => cases hl) swp_rel
  have kp_wish := F_wish.kp
  have b_wish : Binds K fd_wish ["way", "place"] [] := F_wish.bindsN fun _ _ _ _ _ _ us hl => match us, hl with | [_, _], _ => rfl
  have ks_wish : KBinds K fd_wish ["way", "place"] ["place", "way"] swp swp := kbinds_of F_wish (fun kV doc pm an cdv ct us ws hl => by
        match us, ws, hl with
        | [], [_, _], _ => rfl
        | [], [], hl => cases hl
        | [], [_], hl => cases hl
        | [], _ :: _ :: _ :: _, hl => cases hl
        | _ :: _, _, hl => cases hl) swp_rel
  have kp_entries := F_entries.kp
  have b_entries : Binds K fd_entries ["way"] [] := F_entries.bindsN fun _ _ _ _ _ _ us hl => match us, hl with | [_], _ => rfl
  have kt_entries : KBinds K fd_entries ["way"] ["way"] strt strt := kbinds_of F_entries (fun kV doc pm an cdv ct us ws hl => by
        match us, ws, hl with
        | [], [_], _ => rfl
        | [], [], hl => cases hl
        | [], _ :: _ :: _, hl => cases hl
        | _ :: _, _, hl => cases hl) strt_rel
  have kp_l_deck := F_l_deck.kp
  have b_l_deck : Binds K fd_l_deck ["script"] [] := F_l_deck.bindsN fun _ _ _ _ _ _ us hl => match us, hl with | [_], _ => rfl
  have kp_l_draw := F_l_draw.kp
  have b_l_draw : Binds K fd_l_draw ["deck", "many"] [] := F_l_draw.bindsN fun _ _ _ _ _ _ us hl => match us, hl with | [_, _], _ => rfl
  have kp_l_pick := F_l_pick.kp
  have b_l_pick : Binds K fd_l_pick ["deck", "items"] [] := F_l_pick.bindsN fun _ _ _ _ _ _ us hl => match us, hl with | [_, _], _ => rfl
  have kp_l_same := F_l_same.kp
  have b_l_same : Binds K fd_l_same ["found", "due"] [] := F_l_same.bindsN fun _ _ _ _ _ _ us hl => match us, hl with | [_, _], _ => rfl
  have kp_l_way := F_l_way.kp
  have b_l_way : Binds K fd_l_way ["deck", "rooms", "most"] [] := F_l_way.bindsN fun _ _ _ _ _ _ us hl => match us, hl with | [_, _, _], _ => rfl
  have kp_l_long_way := F_l_long_way.kp
  have b_l_long_way : Binds K fd_l_long_way ["deck", "rooms", "pairs"] [] := F_l_long_way.bindsN fun _ _ _ _ _ _ us hl => match us, hl with | [_, _, _], _ => rfl
  have kp_l_held := F_l_held.kp
  have b_l_held : Binds K fd_l_held ["way", "place"] [] := F_l_held.bindsN fun _ _ _ _ _ _ us hl => match us, hl with | [_, _], _ => rfl
  obtain ⟨p89, hp89, h_⟩ := bsplit h; replace h := h_; clear h_
  refine ss_cons (Γ1 := [some (.im (D.lst ((script).map D.int))), some (Deck.m p89), none, none, none, none, none, none, none, none, none, none]) (s_set (Γ1 := [some (.im (D.lst ((script).map D.int))), none, none, none, none, none, none, none, none, none, none, none]) (m := (Deck.m p89)) 1 sc_law.nd rfl (by first | exact Or.inl rfl | exact Or.inr rfl) (np1 hpin (by decide)) (ee_callX (k := 5) (G_l_deck.mono (by decide)) hr hG g_l_deck kp_l_deck b_l_deck (ea_cons (ee_var 0 (pv 0)) ea_nil) ⟨script, p89, hp89, rfl, rfl, rfl⟩) trivial) ?_
  obtain ⟨p205, hp205, h_⟩ := bsplit h; replace h := h_; clear h_
  cases p205 with
  | bk z =>
    exact (outk_bk h).elim
  | ct z =>
    exact (outk_ct h).elim
  | rt z =>
    replace h := outk_rt h
    replace h := Option.some.inj h
    subst h
    refine ss_exit (o := .rt _ _) (s_forO (R := Bool) (ρ := (fun (r : Bool) => ([none, none, none, none, none, none, none, none, none, none, none, none], (.im (D.bl r))))) (J := [2]) (enc := D.int) (xs := (rng 0 5)) (hx := (fun v => .hid (.im .non) v)) (cond := (fun _ => True)) (f := law_L1) (s0 := p89) (Γs := fun (s90 : Deck) => [some (.im (D.lst ((script).map D.int))), some (Deck.m s90), none, none, none, none, none, none, none, none, none, none]) (Γt := fun (s90 : Deck) (x90 : Int) => [some (.im (D.lst ((script).map D.int))), some (Deck.m s90), some (.im (D.int x90)), none, none, none, none, none, none, none, none, none]) rfl Fix.hid (it_wk (Γ1 := [some (.im (D.lst ((script).map D.int))), some (Deck.m p89), none, none, none, none, none, none, none, none, none, none]) (it_rng1 g_range ee_int (by decide) (by decide)) ⟨rfl, ⟨rfl, trivial⟩⟩) (fun _ => trivial) ?_ ?_ hp205) rfl
    · intro v90 s90 x90
      exact (gt_name 2 sc_law.nd rfl (by first | exact Or.inl rfl | exact Or.inr rfl) (np1 hpin (by decide)) ⟨trivial, trivial⟩ (by decide))
    · intro v90 s90 x90 o90 hf90
      unfold law_L1 at hf90
      obtain ⟨p148, hp148, hf90_⟩ := bsplit hf90; replace hf90 := hf90_; clear hf90_
      refine ss_cons (Γ1 := [some (.im (D.lst ((script).map D.int))), some (Deck.m (p148.2)), some (.im (D.int x90)), some (.im (D.int (1 + (p148.1)))), none, none, none, none, none, none, none, none]) (s_set (Γ1 := [some (.im (D.lst ((script).map D.int))), some (Deck.m (p148.2)), some (.im (D.int x90)), none, none, none, none, none, none, none, none, none]) (m := (.im (D.int (1 + (p148.1))))) 3 sc_law.nd rfl (by first | exact Or.inl rfl | exact Or.inr rfl) (np1 hpin (by decide)) (ee_add ee_int (ee_callX (k := 5) (G_l_draw.mono (by decide)) hr hG g_l_draw kp_l_draw b_l_draw (ea_cons (ee_tk 1 (pv 1)) (ea_cons ee_int ea_nil)) ⟨s90, 6, p148, hp148, rfl, rfl, rfl⟩)) ⟨trivial, trivial⟩) ?_
      obtain ⟨p154, hp154, hf90_⟩ := bsplit hf90; replace hf90 := hf90_; clear hf90_
      refine ss_cons (Γ1 := [some (.im (D.lst ((script).map D.int))), some (Deck.m (p154.2)), some (.im (D.int x90)), some (.im (D.int (1 + (p148.1)))), some (.im (D.tup (((p154.1)).map (eT2 D.str D.int)))), none, none, none, none, none, none, none]) (s_set (Γ1 := [some (.im (D.lst ((script).map D.int))), some (Deck.m (p154.2)), some (.im (D.int x90)), some (.im (D.int (1 + (p148.1)))), none, none, none, none, none, none, none, none]) (m := (.im (D.tup (((p154.1)).map (eT2 D.str D.int))))) 4 sc_law.nd rfl (by first | exact Or.inl rfl | exact Or.inr rfl) (np1 hpin (by decide)) (ee_if (t := .own (.im (D.tup (((p154.1)).map (eT2 D.str D.int))))) (Γ' := [some (.im (D.lst ((script).map D.int))), some (Deck.m (p154.2)), some (.im (D.int x90)), some (.im (D.int (1 + (p148.1)))), none, none, none, none, none, none, none, none]) (et_eqI (ee_var 2 (pv 2)) ee_int) (fun hk => by
            have e149 := (if_t hk).symm.trans hp154; obtain ⟨p151, hp151, e149_⟩ := bsplit e149; replace e149 := e149_; clear e149_; replace e149 := Option.some.inj e149; subst e149; exact (ee_callX (k := 5) (G_l_long_way.mono (by decide)) hr hG g_l_long_way kp_l_long_way b_l_long_way (ea_cons (ee_tk 1 (pv 1)) (ea_cons (ee_var 3 (pv 3)) (ea_cons ee_int ea_nil))) ⟨(p148.2), (1 + (p148.1)), 12, p151, hp151, rfl, rfl, rfl⟩)) (fun hk => by
            have e150 := (if_f hk).symm.trans hp154; obtain ⟨p152, hp152, e150_⟩ := bsplit e150; replace e150 := e150_; clear e150_; obtain ⟨p153, hp153, e150_⟩ := bsplit e150; replace e150 := e150_; clear e150_; replace e150 := Option.some.inj e150; subst e150; exact (ee_callX (k := 5) (G_l_way.mono (by decide)) hr hG g_l_way kp_l_way b_l_way (ea_late (ea_cons (ee_al 1 (pv 1)) (ea_cons (ee_var 3 (pv 3)) (ea_cons (ee_callX (k := 5) (G_l_pick.mono (by decide)) hr hG g_l_pick kp_l_pick b_l_pick (ea_cons (ee_tk 1 (pv 1)) (ea_cons (ee_lock (ee_lst (ds := List.map D.int [2, 6, 12, 24]) (ea_cons ee_int (ea_cons ee_int (ea_cons ee_int (ea_cons ee_int ea_nil)))) (show 4 ≤ 1000 by decide))) ea_nil)) ⟨(p148.2), ([2, 6, 12, 24]).map D.int, ((D.int p152.1), p152.2), pick_map D.int hp152, .inl rfl, rfl, rfl⟩) ea_nil)))) ⟨p152.2, (1 + (p148.1)), p152.1, p153, hp153, rfl, rfl, rfl⟩))) ⟨trivial, trivial⟩) ?_
      obtain ⟨p155, hp155, hf90_⟩ := bsplit hf90; replace hf90 := hf90_; clear hf90_
      obtain ⟨p156, hp156, hf90_⟩ := bsplit hf90; replace hf90 := hf90_; clear hf90_
      obtain ⟨p157, hp157, hf90_⟩ := bsplit hf90; replace hf90 := hf90_; clear hf90_
      refine ss_cons (Γ1 := [some (.im (D.lst ((script).map D.int))), some (Deck.m (p154.2)), some (.im (D.int x90)), some (.im (D.int (1 + (p148.1)))), some (.im (D.tup (((p154.1)).map (eT2 D.str D.int)))), some (.im (D.str p155)), some (.im (D.tup ((p157.2).map D.int))), none, none, none, none, none]) (s_par2 (Γ1 := [some (.im (D.lst ((script).map D.int))), some (Deck.m (p154.2)), some (.im (D.int x90)), some (.im (D.int (1 + (p148.1)))), some (.im (D.tup (((p154.1)).map (eT2 D.str D.int)))), none, none, none, none, none, none, none]) (m1 := (.im (D.str p155))) (m2 := (.im (D.tup ((p157.2).map D.int)))) 5 6 rfl sc_law.nd rfl rfl (by decide) rfl rfl (np1 hpin (by decide)) (np1 hpin (by decide)) ⟨trivial, trivial⟩ ⟨trivial, trivial⟩ (ea_cons (ee_shDD hG hr.units g_repr (ee_var 4 (pv 4)) hp155) (ea_cons (ee_tupOf (ds := List.map D.int p157.2) g_tuple (ee_lc (f := (fun (st : Unit) (x : (Int × (Str × Int))) => some ((), if (decide (((x.2).1) = ("in" : Str))) = true then some (x.1) else none))) (enc := (encI (eT2 D.str D.int))) (eb := D.int) (xs := (numL (p154.1))) (s0 := ()) (hx := (fun v => .hid (.im (.tup (((p154.1)).map (eT2 D.str D.int)))) v)) (cond := (fun _ => True)) (Γs := fun (st : Unit) => [some (.im (D.lst ((script).map D.int))), some (Deck.m (p154.2)), some (.im (D.int x90)), some (.im (D.int (1 + (p148.1)))), some (.im (D.tup (((p154.1)).map (eT2 D.str D.int)))), none, none, none, none, none, none, none]) (Γt := fun (st : Unit) (x : (Int × (Str × Int))) => [some (.im (D.lst ((script).map D.int))), some (Deck.m (p154.2)), some (.im (D.int x90)), some (.im (D.int (1 + (p148.1)))), some (.im (D.tup (((p154.1)).map (eT2 D.str D.int)))), none, none, some (.im (D.int (x.1))), some (.im ((eT2 D.str D.int) (x.2))), none, none, none]) (Γu := fun (st : Unit) (x : (Int × (Str × Int))) => [some (.im (D.lst ((script).map D.int))), some (Deck.m (p154.2)), some (.im (D.int x90)), some (.im (D.int (1 + (p148.1)))), some (.im (D.tup (((p154.1)).map (eT2 D.str D.int)))), none, none, some (.im (D.int (x.1))), some (.im ((eT2 D.str D.int) (x.2))), none, none, none]) (tb := (fun st x => (decide (((x.2).1) = ("in" : Str))))) rfl sc_law.nd (blkOk_by (own := [("place", 7), ("step", 8)]) (N := N_law) (sc := defScope s_law) (by decide +kernel))
   { fx := Fix.hid, it := it_wk (Γ1 := [some (.im (D.lst ((script).map D.int))), some (Deck.m (p154.2)), some (.im (D.int x90)), some (.im (D.int (1 + (p148.1)))), some (.im (D.tup (((p154.1)).map (eT2 D.str D.int)))), none, none, none, none, none, none, none]) (by rw [← enumD_map]; exact it_enumT g_enumerate (ee_var 4 (pv 4))) ⟨rfl, ⟨rfl, ⟨rfl, ⟨rfl, ⟨rfl, trivial⟩⟩⟩⟩⟩, cd := fun _ => trivial, gt := fun s H Ca cl fp v q acc st x => (gt_tup rfl (gts_cons (gt_name 7 sc_law.nd rfl (by first | exact Or.inl rfl | exact Or.inr rfl) (np1 hpin (by decide)) ⟨trivial, ⟨trivial, ⟨trivial, ⟨trivial, trivial⟩⟩⟩⟩ (by decide)) (gts_cons (gt_name 8 sc_law.nd rfl (by first | exact Or.inl rfl | exact Or.inr rfl) (np1 hpin (by decide)) ⟨trivial, ⟨trivial, ⟨trivial, ⟨trivial, trivial⟩⟩⟩⟩ (by decide)) gts_nil))), tt := fun s H Ca cl fp v q acc st x => tests1 (et_eqS (ee_ixT (ee_var 8 (pv 8)) ee_int rfl) ee_str),
        el := fun s H Ca cl fp v q acc st x st' y hk hf => by
            rw [if_t hk] at hf; obtain ⟨hf1, hf2⟩ := Prod.mk.inj (Option.some.inj hf); subst hf1; replace hf2 := Option.some.inj hf2; subst hf2; exact ee_wk (Γ1 := [some (.im (D.lst ((script).map D.int))), some (Deck.m (p154.2)), some (.im (D.int x90)), some (.im (D.int (1 + (p148.1)))), some (.im (D.tup (((p154.1)).map (eT2 D.str D.int)))), none, none, some (.im (D.int (x.1))), some (.im ((eT2 D.str D.int) (x.2))), none, none, none]) (ee_var 7 (pv 7)) ⟨rfl, ⟨rfl, ⟨rfl, ⟨rfl, ⟨rfl, trivial⟩⟩⟩⟩⟩,
        ft := fun st x r hk hf => by cases hf; exact ⟨_, if_t hk⟩,
        ff := fun st x r hk hf => by cases hf; exact ⟨if_f hk, ⟨rfl, ⟨rfl, ⟨rfl, ⟨rfl, ⟨rfl, trivial⟩⟩⟩⟩⟩⟩, br := fun _ => (bare_cons rfl (bare_cons rfl bare_nil)), fr := (freeJ_cons ⟨trivial, ⟨trivial, trivial⟩⟩ (freeJ_cons ⟨trivial, ⟨trivial, trivial⟩⟩ freeJ_nil)), fh := fun v => (freeJ_cons ⟨trivial, trivial⟩ (freeJ_cons ⟨trivial, trivial⟩ freeJ_nil)), pn := pnJ hpin (by decide), ln := (gd_d hp156) }
   hp157) .own) ea_nil))) ?_
      obtain ⟨p162, hp162, hf90_⟩ := bsplit hf90; replace hf90 := hf90_; clear hf90_
      obtain ⟨p163, hp163, hf90_⟩ := bsplit hf90; replace hf90 := hf90_; clear hf90_
      obtain ⟨p167, hp167, hf90_⟩ := bsplit hf90; replace hf90 := hf90_; clear hf90_
      rcases Bool.eq_false_or_eq_true p167 with hk168 | hk168
      · replace hf90 := (if_t hk168).symm.trans hf90
        replace hf90 := Option.some.inj hf90
        subst hf90
        refine ss_exit (s_if (ET.ofW (ew_or (Γ' := [some (.im (D.lst ((script).map D.int))), some (Deck.m (p154.2)), some (.im (D.int x90)), some (.im (D.int (1 + (p148.1)))), some (.im (D.tup (((p154.1)).map (eT2 D.str D.int)))), some (.im (D.str p155)), some (.im (D.tup ((p157.2).map D.int))), none, none, none, none, none]) (k := p167) (et_not (et_val (ee_callX (k := 5) (ms := [.im (D.tup ((p162).map D.int)), .im (D.tup ((p157.2).map D.int))]) (G_l_same.mono (by decide)) hr hG g_l_same kp_l_same b_l_same (ea_cons (ee_if (t := .own (.im (D.tup ((p162).map D.int)))) (Γ' := [some (.im (D.lst ((script).map D.int))), some (Deck.m (p154.2)), some (.im (D.int x90)), some (.im (D.int (1 + (p148.1)))), some (.im (D.tup (((p154.1)).map (eT2 D.str D.int)))), some (.im (D.str p155)), some (.im (D.tup ((p157.2).map D.int))), none, none, none, none, none]) (et_eqI (ee_var 2 (pv 2)) ee_int) (fun hk => by
            have e158 := (if_t hk).symm.trans hp162; obtain ⟨p160, hp160, e158_⟩ := bsplit e158; replace e158 := e158_; clear e158_; replace e158 := Option.some.inj e158; subst e158; exact (ee_callK0 (k := 5) (ds := [(D.tup (((p154.1)).map (eT2 D.str D.int)))]) (ds2 := [(D.tup (((p154.1)).map (eT2 D.str D.int)))]) (G_entries.mono (by decide)) hr hG g_entries kp_entries kt_entries (ek_cons (ee_var 4 (pv 4)) ek_nil) (fun zs H hz => hz) rfl ⟨(p154.1), p160, hp160, rfl, rfl, rfl⟩)) (fun hk => by
            have e159 := (if_f hk).symm.trans hp162; obtain ⟨p161, hp161, e159_⟩ := bsplit e159; replace e159 := e159_; clear e159_; replace e159 := Option.some.inj e159; subst e159; exact (ee_callX (k := 5) (G_entries.mono (by decide)) hr hG g_entries kp_entries b_entries (ea_cons (ee_var 4 (pv 4)) ea_nil) ⟨(p154.1), p161, hp161, rfl, rfl, rfl⟩))) (ea_cons (ee_var 6 (pv 6)) ea_nil)) ⟨(D.tup ((p157.2).map D.int)), (pl_tl pl_int) p157.2, congrArg (fun z => [M.im (D.tup ((z).map D.int)), M.im (D.tup ((p157.2).map D.int))]) (gd_d hp163), rfl, rfl⟩))) (fun hk => by
            have e164 := (if_f hk).symm.trans hp167; obtain ⟨p165, hp165, e164_⟩ := bsplit e164; replace e164 := e164_; clear e164_; obtain ⟨p166, hp166, e164_⟩ := bsplit e164; replace e164 := e164_; clear e164_; replace e164 := Option.some.inj e164; subst e164; exact (ew_or1 (et_not (et_val (ee_callX (k := 5) (ms := [.im (D.tup ((p165).map D.int)), .im (D.tup ((p157.2).map D.int))]) (G_l_same.mono (by decide)) hr hG g_l_same kp_l_same b_l_same (ea_cons (ee_callX (k := 5) (G_entries.mono (by decide)) hr hG g_entries kp_entries b_entries (ea_cons (ee_var 4 (pv 4)) ea_nil) ⟨(p154.1), p165, hp165, rfl, rfl, rfl⟩) (ea_cons (ee_var 6 (pv 6)) ea_nil)) ⟨(D.tup ((p157.2).map D.int)), (pl_tl pl_int) p157.2, congrArg (fun z => [M.im (D.tup ((z).map D.int)), M.im (D.tup ((p157.2).map D.int))]) (gd_d hp166), rfl, rfl⟩))))) (fun hk => by have hq := (if_t hk).symm.trans hp167; cases hq; exact ⟨rfl, rfl⟩))) (fun _ => ?_) (fun z => absurd (z.symm.trans hk168) (by decide))) rfl
        exact ss_exit (s_ret (m := (.im (D.bl false))) ee_bl trivial) rfl
      · replace hf90 := (if_f hk168).symm.trans hf90
        refine ss_cons (Γ1 := [some (.im (D.lst ((script).map D.int))), some (Deck.m (p154.2)), some (.im (D.int x90)), some (.im (D.int (1 + (p148.1)))), some (.im (D.tup (((p154.1)).map (eT2 D.str D.int)))), some (.im (D.str p155)), some (.im (D.tup ((p157.2).map D.int))), none, none, none, none, none]) (s_if (ET.ofW (ew_or (Γ' := [some (.im (D.lst ((script).map D.int))), some (Deck.m (p154.2)), some (.im (D.int x90)), some (.im (D.int (1 + (p148.1)))), some (.im (D.tup (((p154.1)).map (eT2 D.str D.int)))), some (.im (D.str p155)), some (.im (D.tup ((p157.2).map D.int))), none, none, none, none, none]) (k := p167) (et_not (et_val (ee_callX (k := 5) (ms := [.im (D.tup ((p162).map D.int)), .im (D.tup ((p157.2).map D.int))]) (G_l_same.mono (by decide)) hr hG g_l_same kp_l_same b_l_same (ea_cons (ee_if (t := .own (.im (D.tup ((p162).map D.int)))) (Γ' := [some (.im (D.lst ((script).map D.int))), some (Deck.m (p154.2)), some (.im (D.int x90)), some (.im (D.int (1 + (p148.1)))), some (.im (D.tup (((p154.1)).map (eT2 D.str D.int)))), some (.im (D.str p155)), some (.im (D.tup ((p157.2).map D.int))), none, none, none, none, none]) (et_eqI (ee_var 2 (pv 2)) ee_int) (fun hk => by
            have e158 := (if_t hk).symm.trans hp162; obtain ⟨p160, hp160, e158_⟩ := bsplit e158; replace e158 := e158_; clear e158_; replace e158 := Option.some.inj e158; subst e158; exact (ee_callK0 (k := 5) (ds := [(D.tup (((p154.1)).map (eT2 D.str D.int)))]) (ds2 := [(D.tup (((p154.1)).map (eT2 D.str D.int)))]) (G_entries.mono (by decide)) hr hG g_entries kp_entries kt_entries (ek_cons (ee_var 4 (pv 4)) ek_nil) (fun zs H hz => hz) rfl ⟨(p154.1), p160, hp160, rfl, rfl, rfl⟩)) (fun hk => by
            have e159 := (if_f hk).symm.trans hp162; obtain ⟨p161, hp161, e159_⟩ := bsplit e159; replace e159 := e159_; clear e159_; replace e159 := Option.some.inj e159; subst e159; exact (ee_callX (k := 5) (G_entries.mono (by decide)) hr hG g_entries kp_entries b_entries (ea_cons (ee_var 4 (pv 4)) ea_nil) ⟨(p154.1), p161, hp161, rfl, rfl, rfl⟩))) (ea_cons (ee_var 6 (pv 6)) ea_nil)) ⟨(D.tup ((p157.2).map D.int)), (pl_tl pl_int) p157.2, congrArg (fun z => [M.im (D.tup ((z).map D.int)), M.im (D.tup ((p157.2).map D.int))]) (gd_d hp163), rfl, rfl⟩))) (fun hk => by
            have e164 := (if_f hk).symm.trans hp167; obtain ⟨p165, hp165, e164_⟩ := bsplit e164; replace e164 := e164_; clear e164_; obtain ⟨p166, hp166, e164_⟩ := bsplit e164; replace e164 := e164_; clear e164_; replace e164 := Option.some.inj e164; subst e164; exact (ew_or1 (et_not (et_val (ee_callX (k := 5) (ms := [.im (D.tup ((p165).map D.int)), .im (D.tup ((p157.2).map D.int))]) (G_l_same.mono (by decide)) hr hG g_l_same kp_l_same b_l_same (ea_cons (ee_callX (k := 5) (G_entries.mono (by decide)) hr hG g_entries kp_entries b_entries (ea_cons (ee_var 4 (pv 4)) ea_nil) ⟨(p154.1), p165, hp165, rfl, rfl, rfl⟩) (ea_cons (ee_var 6 (pv 6)) ea_nil)) ⟨(D.tup ((p157.2).map D.int)), (pl_tl pl_int) p157.2, congrArg (fun z => [M.im (D.tup ((z).map D.int)), M.im (D.tup ((p157.2).map D.int))]) (gd_d hp166), rfl, rfl⟩))))) (fun hk => by have hq := (if_t hk).symm.trans hp167; cases hq; exact ⟨rfl, rfl⟩))) (fun z => absurd (z.symm.trans hk168) (by decide)) (fun _ => ?_)) ?_
        · exact ss_nil ⟨rfl, ⟨rfl, ⟨rfl, ⟨rfl, ⟨rfl, ⟨rfl, ⟨rfl, trivial⟩⟩⟩⟩⟩⟩⟩
        obtain ⟨p202, hp202, hf90_⟩ := bsplit hf90; replace hf90 := hf90_; clear hf90_
        cases p202 with
        | bk z =>
          exact (outk_bk hf90).elim
        | ct z =>
          exact (outk_ct hf90).elim
        | rt z =>
          replace hf90 := outk_rt hf90
          replace hf90 := Option.some.inj hf90
          subst hf90
          refine ss_exit (o := .rt _ _) (s_forO (R := Bool) (ρ := (fun (r : Bool) => ([none, none, none, none, none, none, none, none, none, none, none, none], (.im (D.bl r))))) (J := [7, 8]) (enc := (encI (eT2 D.str D.int))) (xs := (numL (p154.1))) (hx := (fun v => .hid (.im (.tup (((p154.1)).map (eT2 D.str D.int)))) v)) (cond := (fun _ => True)) (f := (law_L2 (p154.1))) (s0 := ()) (Γs := fun (s169 : Unit) => [some (.im (D.lst ((script).map D.int))), some (Deck.m (p154.2)), some (.im (D.int x90)), some (.im (D.int (1 + (p148.1)))), some (.im (D.tup (((p154.1)).map (eT2 D.str D.int)))), some (.im (D.str p155)), some (.im (D.tup ((p157.2).map D.int))), none, none, none, none, none]) (Γt := fun (s169 : Unit) (x169 : (Int × (Str × Int))) => [some (.im (D.lst ((script).map D.int))), some (Deck.m (p154.2)), some (.im (D.int x90)), some (.im (D.int (1 + (p148.1)))), some (.im (D.tup (((p154.1)).map (eT2 D.str D.int)))), some (.im (D.str p155)), some (.im (D.tup ((p157.2).map D.int))), some (.im (D.int (x169.1))), some (.im ((eT2 D.str D.int) (x169.2))), none, none, none]) rfl Fix.hid (it_wk (Γ1 := [some (.im (D.lst ((script).map D.int))), some (Deck.m (p154.2)), some (.im (D.int x90)), some (.im (D.int (1 + (p148.1)))), some (.im (D.tup (((p154.1)).map (eT2 D.str D.int)))), some (.im (D.str p155)), some (.im (D.tup ((p157.2).map D.int))), none, none, none, none, none]) (by rw [← enumD_map]; exact it_enumT g_enumerate (ee_var 4 (pv 4))) ⟨rfl, ⟨rfl, ⟨rfl, ⟨rfl, ⟨rfl, ⟨rfl, ⟨rfl, trivial⟩⟩⟩⟩⟩⟩⟩) (fun _ => trivial) ?_ ?_ hp202) rfl
          · intro v169 s169 x169
            exact (gt_tup rfl (gts_cons (gt_name 7 sc_law.nd rfl (by first | exact Or.inl rfl | exact Or.inr rfl) (np1 hpin (by decide)) ⟨trivial, ⟨trivial, trivial⟩⟩ (by decide)) (gts_cons (gt_name 8 sc_law.nd rfl (by first | exact Or.inl rfl | exact Or.inr rfl) (np1 hpin (by decide)) ⟨trivial, ⟨trivial, trivial⟩⟩ (by decide)) gts_nil)))
          · intro v169 s169 x169 o169 hf169
            unfold law_L2 at hf169
            obtain ⟨p186, hp186, hf169_⟩ := bsplit hf169; replace hf169 := hf169_; clear hf169_
            refine ss_cons (Γ1 := [some (.im (D.lst ((script).map D.int))), some (Deck.m (p154.2)), some (.im (D.int x90)), some (.im (D.int (1 + (p148.1)))), some (.im (D.tup (((p154.1)).map (eT2 D.str D.int)))), some (.im (D.str p155)), some (.im (D.tup ((p157.2).map D.int))), some (.im (D.int (x169.1))), some (.im ((eT2 D.str D.int) (x169.2))), some (.im (D.tup ((p186).map D.int))), some (.im ((eO D.int) (if (decide (((x169.2).1) = ("in" : Str))) = true then (some ((x169.2).2)) else none))), none]) (s_par2 (Γ1 := [some (.im (D.lst ((script).map D.int))), some (Deck.m (p154.2)), some (.im (D.int x90)), some (.im (D.int (1 + (p148.1)))), some (.im (D.tup (((p154.1)).map (eT2 D.str D.int)))), some (.im (D.str p155)), some (.im (D.tup ((p157.2).map D.int))), some (.im (D.int (x169.1))), some (.im ((eT2 D.str D.int) (x169.2))), none, none, none]) (m1 := (.im (D.tup ((p186).map D.int)))) (m2 := (.im ((eO D.int) (if (decide (((x169.2).1) = ("in" : Str))) = true then (some ((x169.2).2)) else none)))) 9 10 rfl sc_law.nd rfl rfl (by decide) rfl rfl (np1 hpin (by decide)) (np1 hpin (by decide)) ⟨trivial, ⟨trivial, trivial⟩⟩ ⟨trivial, ⟨trivial, trivial⟩⟩ (ea_cons (ee_callX (k := 5) (G_l_held.mono (by decide)) hr hG g_l_held kp_l_held b_l_held (ea_cons (ee_var 4 (pv 4)) (ea_cons (ee_var 7 (pv 7)) ea_nil)) ⟨(p154.1), (x169.1), p186, hp186, rfl, rfl, rfl⟩) (ea_cons (ee_if (t := .own (.im ((eO D.int) (if (decide (((x169.2).1) = ("in" : Str))) = true then (some ((x169.2).2)) else none)))) (Γ' := [some (.im (D.lst ((script).map D.int))), some (Deck.m (p154.2)), some (.im (D.int x90)), some (.im (D.int (1 + (p148.1)))), some (.im (D.tup (((p154.1)).map (eT2 D.str D.int)))), some (.im (D.str p155)), some (.im (D.tup ((p157.2).map D.int))), some (.im (D.int (x169.1))), some (.im ((eT2 D.str D.int) (x169.2))), none, none, none]) (et_eqS (ee_ixT (ee_var 8 (pv 8)) ee_int rfl) ee_str) (fun hk => by rw [if_t hk]; exact (ee_ixT (ee_var 8 (pv 8)) ee_int rfl)) (fun hk => by rw [if_f hk]; exact ee_non)) ea_nil))) ?_
            obtain ⟨p189, hp189, hf169_⟩ := bsplit hf169; replace hf169 := hf169_; clear hf169_
            obtain ⟨p190, hp190, hf169_⟩ := bsplit hf169; replace hf169 := hf169_; clear hf169_
            refine ss_cons (Γ1 := [some (.im (D.lst ((script).map D.int))), some (Deck.m (p154.2)), some (.im (D.int x90)), some (.im (D.int (1 + (p148.1)))), some (.im (D.tup (((p154.1)).map (eT2 D.str D.int)))), some (.im (D.str p155)), some (.im (D.tup ((p157.2).map D.int))), some (.im (D.int (x169.1))), some (.im ((eT2 D.str D.int) (x169.2))), some (.im (D.tup ((p186).map D.int))), some (.im ((eO D.int) (if (decide (((x169.2).1) = ("in" : Str))) = true then (some ((x169.2).2)) else none))), some (.im ((eF2 (eTL D.int) (eO D.int)) (p189, p190)))]) (s_set (Γ1 := [some (.im (D.lst ((script).map D.int))), some (Deck.m (p154.2)), some (.im (D.int x90)), some (.im (D.int (1 + (p148.1)))), some (.im (D.tup (((p154.1)).map (eT2 D.str D.int)))), some (.im (D.str p155)), some (.im (D.tup ((p157.2).map D.int))), some (.im (D.int (x169.1))), some (.im ((eT2 D.str D.int) (x169.2))), some (.im (D.tup ((p186).map D.int))), some (.im ((eO D.int) (if (decide (((x169.2).1) = ("in" : Str))) = true then (some ((x169.2).2)) else none))), none]) (m := (.im ((eF2 (eTL D.int) (eO D.int)) (p189, p190)))) 11 sc_law.nd rfl (by first | exact Or.inl rfl | exact Or.inr rfl) (np1 hpin (by decide)) (ee_lock (ee_lst (ds := [(D.tup ((p189).map D.int)), ((eO D.int) p190)]) (ea_cons (ee_callK0 (k := 5) (ds := [(D.tup (((p154.1)).map (eT2 D.str D.int))), (D.int (x169.1))]) (ds2 := [(D.int (x169.1)), (D.tup (((p154.1)).map (eT2 D.str D.int)))]) (G_held.mono (by decide)) hr hG g_held kp_held ks_held (ek_cons (ee_var 7 (pv 7)) (ek_cons (ee_var 4 (pv 4)) ek_nil)) (fun zs H hz => swp_rD hz) rfl ⟨(p154.1), (x169.1), p189, hp189, rfl, rfl, rfl⟩) (ea_cons (ee_callK0 (k := 5) (ds := [(D.tup (((p154.1)).map (eT2 D.str D.int))), (D.int (x169.1))]) (ds2 := [(D.int (x169.1)), (D.tup (((p154.1)).map (eT2 D.str D.int)))]) (G_wish.mono (by decide)) hr hG g_wish kp_wish ks_wish (ek_cons (ee_var 7 (pv 7)) (ek_cons (ee_var 4 (pv 4)) ek_nil)) (fun zs H hz => swp_rD hz) rfl ⟨(p154.1), (x169.1), p190, hp190, rfl, rfl, rfl⟩) ea_nil)) (show 2 ≤ 1000 by decide))) ⟨trivial, ⟨trivial, trivial⟩⟩) ?_
            obtain ⟨p191, hp191, hf169_⟩ := bsplit hf169; replace hf169 := hf169_; clear hf169_
            obtain ⟨p194, hp194, hf169_⟩ := bsplit hf169; replace hf169 := hf169_; clear hf169_
            rcases Bool.eq_false_or_eq_true p194 with hk195 | hk195
            · replace hf169 := (if_t hk195).symm.trans hf169
              replace hf169 := Option.some.inj hf169
              subst hf169
              refine ss_exit (s_if (ET.ofW (ew_or (Γ' := [some (.im (D.lst ((script).map D.int))), some (Deck.m (p154.2)), some (.im (D.int x90)), some (.im (D.int (1 + (p148.1)))), some (.im (D.tup (((p154.1)).map (eT2 D.str D.int)))), some (.im (D.str p155)), some (.im (D.tup ((p157.2).map D.int))), some (.im (D.int (x169.1))), some (.im ((eT2 D.str D.int) (x169.2))), some (.im (D.tup ((p186).map D.int))), some (.im ((eO D.int) (if (decide (((x169.2).1) = ("in" : Str))) = true then (some ((x169.2).2)) else none))), some (.im ((eF2 (eTL D.int) (eO D.int)) (p189, p190)))]) (k := p194) (et_not (et_val (ee_callX (k := 5) (ms := [.im (D.tup ((((p189, p190).1)).map D.int)), .im (D.tup ((p186).map D.int))]) (G_l_same.mono (by decide)) hr hG g_l_same kp_l_same b_l_same (ea_cons (ee_ixL (ds := [(D.tup ((((p189, p190).1)).map D.int)), ((eO D.int) ((p189, p190).2))]) (ee_var 11 (pv 11)) ee_int .fz rfl) (ea_cons (ee_var 9 (pv 9)) ea_nil)) ⟨(D.tup ((p186).map D.int)), (pl_tl pl_int) p186, congrArg (fun z => [M.im (D.tup ((z).map D.int)), M.im (D.tup ((p186).map D.int))]) (gd_d hp191), rfl, rfl⟩))) (fun hk => by
            have e192 := (if_f hk).symm.trans hp194; obtain ⟨p193, hp193, e192_⟩ := bsplit e192; replace e192 := e192_; clear e192_; replace e192 := Option.some.inj e192; subst e192; exact (ew_or1 (et_not (et_val (ee_callX (k := 5) (ms := [.im ((eO D.int) ((p189, p190).2)), .im ((eO D.int) (if (decide (((x169.2).1) = ("in" : Str))) = true then (some ((x169.2).2)) else none))]) (G_l_same.mono (by decide)) hr hG g_l_same kp_l_same b_l_same (ea_cons (ee_ixL (ds := [(D.tup ((((p189, p190).1)).map D.int)), ((eO D.int) ((p189, p190).2))]) (ee_var 11 (pv 11)) ee_int .fz rfl) (ea_cons (ee_var 10 (pv 10)) ea_nil)) ⟨((eO D.int) (if (decide (((x169.2).1) = ("in" : Str))) = true then (some ((x169.2).2)) else none)), (pl_o pl_int) (if (decide (((x169.2).1) = ("in" : Str))) = true then (some ((x169.2).2)) else none), congrArg (fun z => [M.im ((eO D.int) z), M.im ((eO D.int) (if (decide (((x169.2).1) = ("in" : Str))) = true then (some ((x169.2).2)) else none))]) (gd_d hp193), rfl, rfl⟩))))) (fun hk => by have hq := (if_t hk).symm.trans hp194; cases hq; exact ⟨rfl, rfl⟩))) (fun _ => ?_) (fun z => absurd (z.symm.trans hk195) (by decide))) rfl
              exact ss_exit (s_ret (m := (.im (D.bl false))) ee_bl trivial) rfl
            · replace hf169 := (if_f hk195).symm.trans hf169
              refine ss_cons (Γ1 := [some (.im (D.lst ((script).map D.int))), some (Deck.m (p154.2)), some (.im (D.int x90)), some (.im (D.int (1 + (p148.1)))), some (.im (D.tup (((p154.1)).map (eT2 D.str D.int)))), some (.im (D.str p155)), some (.im (D.tup ((p157.2).map D.int))), some (.im (D.int (x169.1))), some (.im ((eT2 D.str D.int) (x169.2))), some (.im (D.tup ((p186).map D.int))), some (.im ((eO D.int) (if (decide (((x169.2).1) = ("in" : Str))) = true then (some ((x169.2).2)) else none))), some (.im ((eF2 (eTL D.int) (eO D.int)) (p189, p190)))]) (s_if (ET.ofW (ew_or (Γ' := [some (.im (D.lst ((script).map D.int))), some (Deck.m (p154.2)), some (.im (D.int x90)), some (.im (D.int (1 + (p148.1)))), some (.im (D.tup (((p154.1)).map (eT2 D.str D.int)))), some (.im (D.str p155)), some (.im (D.tup ((p157.2).map D.int))), some (.im (D.int (x169.1))), some (.im ((eT2 D.str D.int) (x169.2))), some (.im (D.tup ((p186).map D.int))), some (.im ((eO D.int) (if (decide (((x169.2).1) = ("in" : Str))) = true then (some ((x169.2).2)) else none))), some (.im ((eF2 (eTL D.int) (eO D.int)) (p189, p190)))]) (k := p194) (et_not (et_val (ee_callX (k := 5) (ms := [.im (D.tup ((((p189, p190).1)).map D.int)), .im (D.tup ((p186).map D.int))]) (G_l_same.mono (by decide)) hr hG g_l_same kp_l_same b_l_same (ea_cons (ee_ixL (ds := [(D.tup ((((p189, p190).1)).map D.int)), ((eO D.int) ((p189, p190).2))]) (ee_var 11 (pv 11)) ee_int .fz rfl) (ea_cons (ee_var 9 (pv 9)) ea_nil)) ⟨(D.tup ((p186).map D.int)), (pl_tl pl_int) p186, congrArg (fun z => [M.im (D.tup ((z).map D.int)), M.im (D.tup ((p186).map D.int))]) (gd_d hp191), rfl, rfl⟩))) (fun hk => by
            have e192 := (if_f hk).symm.trans hp194; obtain ⟨p193, hp193, e192_⟩ := bsplit e192; replace e192 := e192_; clear e192_; replace e192 := Option.some.inj e192; subst e192; exact (ew_or1 (et_not (et_val (ee_callX (k := 5) (ms := [.im ((eO D.int) ((p189, p190).2)), .im ((eO D.int) (if (decide (((x169.2).1) = ("in" : Str))) = true then (some ((x169.2).2)) else none))]) (G_l_same.mono (by decide)) hr hG g_l_same kp_l_same b_l_same (ea_cons (ee_ixL (ds := [(D.tup ((((p189, p190).1)).map D.int)), ((eO D.int) ((p189, p190).2))]) (ee_var 11 (pv 11)) ee_int .fz rfl) (ea_cons (ee_var 10 (pv 10)) ea_nil)) ⟨((eO D.int) (if (decide (((x169.2).1) = ("in" : Str))) = true then (some ((x169.2).2)) else none)), (pl_o pl_int) (if (decide (((x169.2).1) = ("in" : Str))) = true then (some ((x169.2).2)) else none), congrArg (fun z => [M.im ((eO D.int) z), M.im ((eO D.int) (if (decide (((x169.2).1) = ("in" : Str))) = true then (some ((x169.2).2)) else none))]) (gd_d hp193), rfl, rfl⟩))))) (fun hk => by have hq := (if_t hk).symm.trans hp194; cases hq; exact ⟨rfl, rfl⟩))) (fun z => absurd (z.symm.trans hk195) (by decide)) (fun _ => ?_)) ?_
              · exact ss_nil ⟨rfl, ⟨rfl, ⟨rfl, ⟨rfl, ⟨rfl, ⟨rfl, ⟨rfl, ⟨rfl, ⟨rfl, ⟨rfl, ⟨rfl, ⟨rfl, trivial⟩⟩⟩⟩⟩⟩⟩⟩⟩⟩⟩⟩
              obtain ⟨p196, hp196, hf169_⟩ := bsplit hf169; replace hf169 := hf169_; clear hf169_
              obtain ⟨p197, hp197, hf169_⟩ := bsplit hf169; replace hf169 := hf169_; clear hf169_
              obtain ⟨p201, hp201, hf169_⟩ := bsplit hf169; replace hf169 := hf169_; clear hf169_
              refine ss_one (s_if (ET.ofW (ew_or (Γ' := [some (.im (D.lst ((script).map D.int))), some (Deck.m (p154.2)), some (.im (D.int x90)), some (.im (D.int (1 + (p148.1)))), some (.im (D.tup (((p154.1)).map (eT2 D.str D.int)))), some (.im (D.str p155)), some (.im (D.tup ((p157.2).map D.int))), some (.im (D.int (x169.1))), some (.im ((eT2 D.str D.int) (x169.2))), some (.im (D.tup ((p186).map D.int))), some (.im ((eO D.int) (if (decide (((x169.2).1) = ("in" : Str))) = true then (some ((x169.2).2)) else none))), some (.im ((eF2 (eTL D.int) (eO D.int)) (p189, p190)))]) (k := p201) (et_not (et_val (ee_callX (k := 5) (ms := [.im (D.tup ((p196).map D.int)), .im (D.tup ((p186).map D.int))]) (G_l_same.mono (by decide)) hr hG g_l_same kp_l_same b_l_same (ea_cons (ee_callX (k := 5) (G_held.mono (by decide)) hr hG g_held kp_held b_held (ea_cons (ee_var 4 (pv 4)) (ea_cons (ee_var 7 (pv 7)) ea_nil)) ⟨(p154.1), (x169.1), p196, hp196, rfl, rfl, rfl⟩) (ea_cons (ee_var 9 (pv 9)) ea_nil)) ⟨(D.tup ((p186).map D.int)), (pl_tl pl_int) p186, congrArg (fun z => [M.im (D.tup ((z).map D.int)), M.im (D.tup ((p186).map D.int))]) (gd_d hp197), rfl, rfl⟩))) (fun hk => by
            have e198 := (if_f hk).symm.trans hp201; obtain ⟨p199, hp199, e198_⟩ := bsplit e198; replace e198 := e198_; clear e198_; obtain ⟨p200, hp200, e198_⟩ := bsplit e198; replace e198 := e198_; clear e198_; replace e198 := Option.some.inj e198; subst e198; exact (ew_or1 (et_not (et_val (ee_callX (k := 5) (ms := [.im ((eO D.int) p199), .im ((eO D.int) (if (decide (((x169.2).1) = ("in" : Str))) = true then (some ((x169.2).2)) else none))]) (G_l_same.mono (by decide)) hr hG g_l_same kp_l_same b_l_same (ea_cons (ee_callX (k := 5) (G_wish.mono (by decide)) hr hG g_wish kp_wish b_wish (ea_cons (ee_var 4 (pv 4)) (ea_cons (ee_var 7 (pv 7)) ea_nil)) ⟨(p154.1), (x169.1), p199, hp199, rfl, rfl, rfl⟩) (ea_cons (ee_var 10 (pv 10)) ea_nil)) ⟨((eO D.int) (if (decide (((x169.2).1) = ("in" : Str))) = true then (some ((x169.2).2)) else none)), (pl_o pl_int) (if (decide (((x169.2).1) = ("in" : Str))) = true then (some ((x169.2).2)) else none), congrArg (fun z => [M.im ((eO D.int) z), M.im ((eO D.int) (if (decide (((x169.2).1) = ("in" : Str))) = true then (some ((x169.2).2)) else none))]) (gd_d hp200), rfl, rfl⟩))))) (fun hk => by have hq := (if_t hk).symm.trans hp201; cases hq; exact ⟨rfl, rfl⟩))) (fun hk => ?_) (fun hk => ?_))
              · replace hf169 := (if_t hk).symm.trans hf169
                replace hf169 := Option.some.inj hf169
                subst hf169
                exact ss_exit (s_ret (m := (.im (D.bl false))) ee_bl trivial) rfl
              · replace hf169 := (if_f hk).symm.trans hf169
                replace hf169 := Option.some.inj hf169
                subst hf169
                exact ss_nil ⟨rfl, ⟨rfl, ⟨rfl, ⟨rfl, ⟨rfl, ⟨rfl, ⟨rfl, trivial⟩⟩⟩⟩⟩⟩⟩
        | nx q203 =>
          replace hf90 := outk_nx hf90
          refine ss_cons (Γ1 := [some (.im (D.lst ((script).map D.int))), some (Deck.m (p154.2)), some (.im (D.int x90)), some (.im (D.int (1 + (p148.1)))), some (.im (D.tup (((p154.1)).map (eT2 D.str D.int)))), some (.im (D.str p155)), some (.im (D.tup ((p157.2).map D.int))), none, none, none, none, none]) (s_forO (R := Bool) (ρ := (fun (r : Bool) => ([none, none, none, none, none, none, none, none, none, none, none, none], (.im (D.bl r))))) (J := [7, 8]) (enc := (encI (eT2 D.str D.int))) (xs := (numL (p154.1))) (hx := (fun v => .hid (.im (.tup (((p154.1)).map (eT2 D.str D.int)))) v)) (cond := (fun _ => True)) (f := (law_L2 (p154.1))) (s0 := ()) (Γs := fun (s169 : Unit) => [some (.im (D.lst ((script).map D.int))), some (Deck.m (p154.2)), some (.im (D.int x90)), some (.im (D.int (1 + (p148.1)))), some (.im (D.tup (((p154.1)).map (eT2 D.str D.int)))), some (.im (D.str p155)), some (.im (D.tup ((p157.2).map D.int))), none, none, none, none, none]) (Γt := fun (s169 : Unit) (x169 : (Int × (Str × Int))) => [some (.im (D.lst ((script).map D.int))), some (Deck.m (p154.2)), some (.im (D.int x90)), some (.im (D.int (1 + (p148.1)))), some (.im (D.tup (((p154.1)).map (eT2 D.str D.int)))), some (.im (D.str p155)), some (.im (D.tup ((p157.2).map D.int))), some (.im (D.int (x169.1))), some (.im ((eT2 D.str D.int) (x169.2))), none, none, none]) rfl Fix.hid (it_wk (Γ1 := [some (.im (D.lst ((script).map D.int))), some (Deck.m (p154.2)), some (.im (D.int x90)), some (.im (D.int (1 + (p148.1)))), some (.im (D.tup (((p154.1)).map (eT2 D.str D.int)))), some (.im (D.str p155)), some (.im (D.tup ((p157.2).map D.int))), none, none, none, none, none]) (by rw [← enumD_map]; exact it_enumT g_enumerate (ee_var 4 (pv 4))) ⟨rfl, ⟨rfl, ⟨rfl, ⟨rfl, ⟨rfl, ⟨rfl, ⟨rfl, trivial⟩⟩⟩⟩⟩⟩⟩) (fun _ => trivial) ?_ ?_ hp202) ?_
          · intro v169 s169 x169
            exact (gt_tup rfl (gts_cons (gt_name 7 sc_law.nd rfl (by first | exact Or.inl rfl | exact Or.inr rfl) (np1 hpin (by decide)) ⟨trivial, ⟨trivial, trivial⟩⟩ (by decide)) (gts_cons (gt_name 8 sc_law.nd rfl (by first | exact Or.inl rfl | exact Or.inr rfl) (np1 hpin (by decide)) ⟨trivial, ⟨trivial, trivial⟩⟩ (by decide)) gts_nil)))
          · intro v169 s169 x169 o169 hf169
            unfold law_L2 at hf169
            obtain ⟨p186, hp186, hf169_⟩ := bsplit hf169; replace hf169 := hf169_; clear hf169_
            refine ss_cons (Γ1 := [some (.im (D.lst ((script).map D.int))), some (Deck.m (p154.2)), some (.im (D.int x90)), some (.im (D.int (1 + (p148.1)))), some (.im (D.tup (((p154.1)).map (eT2 D.str D.int)))), some (.im (D.str p155)), some (.im (D.tup ((p157.2).map D.int))), some (.im (D.int (x169.1))), some (.im ((eT2 D.str D.int) (x169.2))), some (.im (D.tup ((p186).map D.int))), some (.im ((eO D.int) (if (decide (((x169.2).1) = ("in" : Str))) = true then (some ((x169.2).2)) else none))), none]) (s_par2 (Γ1 := [some (.im (D.lst ((script).map D.int))), some (Deck.m (p154.2)), some (.im (D.int x90)), some (.im (D.int (1 + (p148.1)))), some (.im (D.tup (((p154.1)).map (eT2 D.str D.int)))), some (.im (D.str p155)), some (.im (D.tup ((p157.2).map D.int))), some (.im (D.int (x169.1))), some (.im ((eT2 D.str D.int) (x169.2))), none, none, none]) (m1 := (.im (D.tup ((p186).map D.int)))) (m2 := (.im ((eO D.int) (if (decide (((x169.2).1) = ("in" : Str))) = true then (some ((x169.2).2)) else none)))) 9 10 rfl sc_law.nd rfl rfl (by decide) rfl rfl (np1 hpin (by decide)) (np1 hpin (by decide)) ⟨trivial, ⟨trivial, trivial⟩⟩ ⟨trivial, ⟨trivial, trivial⟩⟩ (ea_cons (ee_callX (k := 5) (G_l_held.mono (by decide)) hr hG g_l_held kp_l_held b_l_held (ea_cons (ee_var 4 (pv 4)) (ea_cons (ee_var 7 (pv 7)) ea_nil)) ⟨(p154.1), (x169.1), p186, hp186, rfl, rfl, rfl⟩) (ea_cons (ee_if (t := .own (.im ((eO D.int) (if (decide (((x169.2).1) = ("in" : Str))) = true then (some ((x169.2).2)) else none)))) (Γ' := [some (.im (D.lst ((script).map D.int))), some (Deck.m (p154.2)), some (.im (D.int x90)), some (.im (D.int (1 + (p148.1)))), some (.im (D.tup (((p154.1)).map (eT2 D.str D.int)))), some (.im (D.str p155)), some (.im (D.tup ((p157.2).map D.int))), some (.im (D.int (x169.1))), some (.im ((eT2 D.str D.int) (x169.2))), none, none, none]) (et_eqS (ee_ixT (ee_var 8 (pv 8)) ee_int rfl) ee_str) (fun hk => by rw [if_t hk]; exact (ee_ixT (ee_var 8 (pv 8)) ee_int rfl)) (fun hk => by rw [if_f hk]; exact ee_non)) ea_nil))) ?_
            obtain ⟨p189, hp189, hf169_⟩ := bsplit hf169; replace hf169 := hf169_; clear hf169_
            obtain ⟨p190, hp190, hf169_⟩ := bsplit hf169; replace hf169 := hf169_; clear hf169_
            refine ss_cons (Γ1 := [some (.im (D.lst ((script).map D.int))), some (Deck.m (p154.2)), some (.im (D.int x90)), some (.im (D.int (1 + (p148.1)))), some (.im (D.tup (((p154.1)).map (eT2 D.str D.int)))), some (.im (D.str p155)), some (.im (D.tup ((p157.2).map D.int))), some (.im (D.int (x169.1))), some (.im ((eT2 D.str D.int) (x169.2))), some (.im (D.tup ((p186).map D.int))), some (.im ((eO D.int) (if (decide (((x169.2).1) = ("in" : Str))) = true then (some ((x169.2).2)) else none))), some (.im ((eF2 (eTL D.int) (eO D.int)) (p189, p190)))]) (s_set (Γ1 := [some (.im (D.lst ((script).map D.int))), some (Deck.m (p154.2)), some (.im (D.int x90)), some (.im (D.int (1 + (p148.1)))), some (.im (D.tup (((p154.1)).map (eT2 D.str D.int)))), some (.im (D.str p155)), some (.im (D.tup ((p157.2).map D.int))), some (.im (D.int (x169.1))), some (.im ((eT2 D.str D.int) (x169.2))), some (.im (D.tup ((p186).map D.int))), some (.im ((eO D.int) (if (decide (((x169.2).1) = ("in" : Str))) = true then (some ((x169.2).2)) else none))), none]) (m := (.im ((eF2 (eTL D.int) (eO D.int)) (p189, p190)))) 11 sc_law.nd rfl (by first | exact Or.inl rfl | exact Or.inr rfl) (np1 hpin (by decide)) (ee_lock (ee_lst (ds := [(D.tup ((p189).map D.int)), ((eO D.int) p190)]) (ea_cons (ee_callK0 (k := 5) (ds := [(D.tup (((p154.1)).map (eT2 D.str D.int))), (D.int (x169.1))]) (ds2 := [(D.int (x169.1)), (D.tup (((p154.1)).map (eT2 D.str D.int)))]) (G_held.mono (by decide)) hr hG g_held kp_held ks_held (ek_cons (ee_var 7 (pv 7)) (ek_cons (ee_var 4 (pv 4)) ek_nil)) (fun zs H hz => swp_rD hz) rfl ⟨(p154.1), (x169.1), p189, hp189, rfl, rfl, rfl⟩) (ea_cons (ee_callK0 (k := 5) (ds := [(D.tup (((p154.1)).map (eT2 D.str D.int))), (D.int (x169.1))]) (ds2 := [(D.int (x169.1)), (D.tup (((p154.1)).map (eT2 D.str D.int)))]) (G_wish.mono (by decide)) hr hG g_wish kp_wish ks_wish (ek_cons (ee_var 7 (pv 7)) (ek_cons (ee_var 4 (pv 4)) ek_nil)) (fun zs H hz => swp_rD hz) rfl ⟨(p154.1), (x169.1), p190, hp190, rfl, rfl, rfl⟩) ea_nil)) (show 2 ≤ 1000 by decide))) ⟨trivial, ⟨trivial, trivial⟩⟩) ?_
            obtain ⟨p191, hp191, hf169_⟩ := bsplit hf169; replace hf169 := hf169_; clear hf169_
            obtain ⟨p194, hp194, hf169_⟩ := bsplit hf169; replace hf169 := hf169_; clear hf169_
            rcases Bool.eq_false_or_eq_true p194 with hk195 | hk195
            · replace hf169 := (if_t hk195).symm.trans hf169
              replace hf169 := Option.some.inj hf169
              subst hf169
              refine ss_exit (s_if (ET.ofW (ew_or (Γ' := [some (.im (D.lst ((script).map D.int))), some (Deck.m (p154.2)), some (.im (D.int x90)), some (.im (D.int (1 + (p148.1)))), some (.im (D.tup (((p154.1)).map (eT2 D.str D.int)))), some (.im (D.str p155)), some (.im (D.tup ((p157.2).map D.int))), some (.im (D.int (x169.1))), some (.im ((eT2 D.str D.int) (x169.2))), some (.im (D.tup ((p186).map D.int))), some (.im ((eO D.int) (if (decide (((x169.2).1) = ("in" : Str))) = true then (some ((x169.2).2)) else none))), some (.im ((eF2 (eTL D.int) (eO D.int)) (p189, p190)))]) (k := p194) (et_not (et_val (ee_callX (k := 5) (ms := [.im (D.tup ((((p189, p190).1)).map D.int)), .im (D.tup ((p186).map D.int))]) (G_l_same.mono (by decide)) hr hG g_l_same kp_l_same b_l_same (ea_cons (ee_ixL (ds := [(D.tup ((((p189, p190).1)).map D.int)), ((eO D.int) ((p189, p190).2))]) (ee_var 11 (pv 11)) ee_int .fz rfl) (ea_cons (ee_var 9 (pv 9)) ea_nil)) ⟨(D.tup ((p186).map D.int)), (pl_tl pl_int) p186, congrArg (fun z => [M.im (D.tup ((z).map D.int)), M.im (D.tup ((p186).map D.int))]) (gd_d hp191), rfl, rfl⟩))) (fun hk => by
            have e192 := (if_f hk).symm.trans hp194; obtain ⟨p193, hp193, e192_⟩ := bsplit e192; replace e192 := e192_; clear e192_; replace e192 := Option.some.inj e192; subst e192; exact (ew_or1 (et_not (et_val (ee_callX (k := 5) (ms := [.im ((eO D.int) ((p189, p190).2)), .im ((eO D.int) (if (decide (((x169.2).1) = ("in" : Str))) = true then (some ((x169.2).2)) else none))]) (G_l_same.mono (by decide)) hr hG g_l_same kp_l_same b_l_same (ea_cons (ee_ixL (ds := [(D.tup ((((p189, p190).1)).map D.int)), ((eO D.int) ((p189, p190).2))]) (ee_var 11 (pv 11)) ee_int .fz rfl) (ea_cons (ee_var 10 (pv 10)) ea_nil)) ⟨((eO D.int) (if (decide (((x169.2).1) = ("in" : Str))) = true then (some ((x169.2).2)) else none)), (pl_o pl_int) (if (decide (((x169.2).1) = ("in" : Str))) = true then (some ((x169.2).2)) else none), congrArg (fun z => [M.im ((eO D.int) z), M.im ((eO D.int) (if (decide (((x169.2).1) = ("in" : Str))) = true then (some ((x169.2).2)) else none))]) (gd_d hp193), rfl, rfl⟩))))) (fun hk => by have hq := (if_t hk).symm.trans hp194; cases hq; exact ⟨rfl, rfl⟩))) (fun _ => ?_) (fun z => absurd (z.symm.trans hk195) (by decide))) rfl
              exact ss_exit (s_ret (m := (.im (D.bl false))) ee_bl trivial) rfl
            · replace hf169 := (if_f hk195).symm.trans hf169
              refine ss_cons (Γ1 := [some (.im (D.lst ((script).map D.int))), some (Deck.m (p154.2)), some (.im (D.int x90)), some (.im (D.int (1 + (p148.1)))), some (.im (D.tup (((p154.1)).map (eT2 D.str D.int)))), some (.im (D.str p155)), some (.im (D.tup ((p157.2).map D.int))), some (.im (D.int (x169.1))), some (.im ((eT2 D.str D.int) (x169.2))), some (.im (D.tup ((p186).map D.int))), some (.im ((eO D.int) (if (decide (((x169.2).1) = ("in" : Str))) = true then (some ((x169.2).2)) else none))), some (.im ((eF2 (eTL D.int) (eO D.int)) (p189, p190)))]) (s_if (ET.ofW (ew_or (Γ' := [some (.im (D.lst ((script).map D.int))), some (Deck.m (p154.2)), some (.im (D.int x90)), some (.im (D.int (1 + (p148.1)))), some (.im (D.tup (((p154.1)).map (eT2 D.str D.int)))), some (.im (D.str p155)), some (.im (D.tup ((p157.2).map D.int))), some (.im (D.int (x169.1))), some (.im ((eT2 D.str D.int) (x169.2))), some (.im (D.tup ((p186).map D.int))), some (.im ((eO D.int) (if (decide (((x169.2).1) = ("in" : Str))) = true then (some ((x169.2).2)) else none))), some (.im ((eF2 (eTL D.int) (eO D.int)) (p189, p190)))]) (k := p194) (et_not (et_val (ee_callX (k := 5) (ms := [.im (D.tup ((((p189, p190).1)).map D.int)), .im (D.tup ((p186).map D.int))]) (G_l_same.mono (by decide)) hr hG g_l_same kp_l_same b_l_same (ea_cons (ee_ixL (ds := [(D.tup ((((p189, p190).1)).map D.int)), ((eO D.int) ((p189, p190).2))]) (ee_var 11 (pv 11)) ee_int .fz rfl) (ea_cons (ee_var 9 (pv 9)) ea_nil)) ⟨(D.tup ((p186).map D.int)), (pl_tl pl_int) p186, congrArg (fun z => [M.im (D.tup ((z).map D.int)), M.im (D.tup ((p186).map D.int))]) (gd_d hp191), rfl, rfl⟩))) (fun hk => by
            have e192 := (if_f hk).symm.trans hp194; obtain ⟨p193, hp193, e192_⟩ := bsplit e192; replace e192 := e192_; clear e192_; replace e192 := Option.some.inj e192; subst e192; exact (ew_or1 (et_not (et_val (ee_callX (k := 5) (ms := [.im ((eO D.int) ((p189, p190).2)), .im ((eO D.int) (if (decide (((x169.2).1) = ("in" : Str))) = true then (some ((x169.2).2)) else none))]) (G_l_same.mono (by decide)) hr hG g_l_same kp_l_same b_l_same (ea_cons (ee_ixL (ds := [(D.tup ((((p189, p190).1)).map D.int)), ((eO D.int) ((p189, p190).2))]) (ee_var 11 (pv 11)) ee_int .fz rfl) (ea_cons (ee_var 10 (pv 10)) ea_nil)) ⟨((eO D.int) (if (decide (((x169.2).1) = ("in" : Str))) = true then (some ((x169.2).2)) else none)), (pl_o pl_int) (if (decide (((x169.2).1) = ("in" : Str))) = true then (some ((x169.2).2)) else none), congrArg (fun z => [M.im ((eO D.int) z), M.im ((eO D.int) (if (decide (((x169.2).1) = ("in" : Str))) = true then (some ((x169.2).2)) else none))]) (gd_d hp193), rfl, rfl⟩))))) (fun hk => by have hq := (if_t hk).symm.trans hp194; cases hq; exact ⟨rfl, rfl⟩))) (fun z => absurd (z.symm.trans hk195) (by decide)) (fun _ => ?_)) ?_
              · exact ss_nil ⟨rfl, ⟨rfl, ⟨rfl, ⟨rfl, ⟨rfl, ⟨rfl, ⟨rfl, ⟨rfl, ⟨rfl, ⟨rfl, ⟨rfl, ⟨rfl, trivial⟩⟩⟩⟩⟩⟩⟩⟩⟩⟩⟩⟩
              obtain ⟨p196, hp196, hf169_⟩ := bsplit hf169; replace hf169 := hf169_; clear hf169_
              obtain ⟨p197, hp197, hf169_⟩ := bsplit hf169; replace hf169 := hf169_; clear hf169_
              obtain ⟨p201, hp201, hf169_⟩ := bsplit hf169; replace hf169 := hf169_; clear hf169_
              refine ss_one (s_if (ET.ofW (ew_or (Γ' := [some (.im (D.lst ((script).map D.int))), some (Deck.m (p154.2)), some (.im (D.int x90)), some (.im (D.int (1 + (p148.1)))), some (.im (D.tup (((p154.1)).map (eT2 D.str D.int)))), some (.im (D.str p155)), some (.im (D.tup ((p157.2).map D.int))), some (.im (D.int (x169.1))), some (.im ((eT2 D.str D.int) (x169.2))), some (.im (D.tup ((p186).map D.int))), some (.im ((eO D.int) (if (decide (((x169.2).1) = ("in" : Str))) = true then (some ((x169.2).2)) else none))), some (.im ((eF2 (eTL D.int) (eO D.int)) (p189, p190)))]) (k := p201) (et_not (et_val (ee_callX (k := 5) (ms := [.im (D.tup ((p196).map D.int)), .im (D.tup ((p186).map D.int))]) (G_l_same.mono (by decide)) hr hG g_l_same kp_l_same b_l_same (ea_cons (ee_callX (k := 5) (G_held.mono (by decide)) hr hG g_held kp_held b_held (ea_cons (ee_var 4 (pv 4)) (ea_cons (ee_var 7 (pv 7)) ea_nil)) ⟨(p154.1), (x169.1), p196, hp196, rfl, rfl, rfl⟩) (ea_cons (ee_var 9 (pv 9)) ea_nil)) ⟨(D.tup ((p186).map D.int)), (pl_tl pl_int) p186, congrArg (fun z => [M.im (D.tup ((z).map D.int)), M.im (D.tup ((p186).map D.int))]) (gd_d hp197), rfl, rfl⟩))) (fun hk => by
            have e198 := (if_f hk).symm.trans hp201; obtain ⟨p199, hp199, e198_⟩ := bsplit e198; replace e198 := e198_; clear e198_; obtain ⟨p200, hp200, e198_⟩ := bsplit e198; replace e198 := e198_; clear e198_; replace e198 := Option.some.inj e198; subst e198; exact (ew_or1 (et_not (et_val (ee_callX (k := 5) (ms := [.im ((eO D.int) p199), .im ((eO D.int) (if (decide (((x169.2).1) = ("in" : Str))) = true then (some ((x169.2).2)) else none))]) (G_l_same.mono (by decide)) hr hG g_l_same kp_l_same b_l_same (ea_cons (ee_callX (k := 5) (G_wish.mono (by decide)) hr hG g_wish kp_wish b_wish (ea_cons (ee_var 4 (pv 4)) (ea_cons (ee_var 7 (pv 7)) ea_nil)) ⟨(p154.1), (x169.1), p199, hp199, rfl, rfl, rfl⟩) (ea_cons (ee_var 10 (pv 10)) ea_nil)) ⟨((eO D.int) (if (decide (((x169.2).1) = ("in" : Str))) = true then (some ((x169.2).2)) else none)), (pl_o pl_int) (if (decide (((x169.2).1) = ("in" : Str))) = true then (some ((x169.2).2)) else none), congrArg (fun z => [M.im ((eO D.int) z), M.im ((eO D.int) (if (decide (((x169.2).1) = ("in" : Str))) = true then (some ((x169.2).2)) else none))]) (gd_d hp200), rfl, rfl⟩))))) (fun hk => by have hq := (if_t hk).symm.trans hp201; cases hq; exact ⟨rfl, rfl⟩))) (fun hk => ?_) (fun hk => ?_))
              · replace hf169 := (if_t hk).symm.trans hf169
                replace hf169 := Option.some.inj hf169
                subst hf169
                exact ss_exit (s_ret (m := (.im (D.bl false))) ee_bl trivial) rfl
              · replace hf169 := (if_f hk).symm.trans hf169
                replace hf169 := Option.some.inj hf169
                subst hf169
                exact ss_nil ⟨rfl, ⟨rfl, ⟨rfl, ⟨rfl, ⟨rfl, ⟨rfl, ⟨rfl, trivial⟩⟩⟩⟩⟩⟩⟩
          obtain ⟨p204, hp204, hf90_⟩ := bsplit hf90; replace hf90 := hf90_; clear hf90_
          refine ss_one (s_if (et_neS (ee_shDD hG hr.units g_repr (ee_var 4 (pv 4)) hp204) (ee_var 5 (pv 5))) (fun hk => ?_) (fun hk => ?_))
          · replace hf90 := (if_t hk).symm.trans hf90
            replace hf90 := Option.some.inj hf90
            subst hf90
            exact ss_exit (s_ret (m := (.im (D.bl false))) ee_bl trivial) rfl
          · replace hf90 := (if_f hk).symm.trans hf90
            replace hf90 := Option.some.inj hf90
            subst hf90
            exact ss_nil ⟨rfl, ⟨rfl, trivial⟩⟩
  | nx q206 =>
    replace h := outk_nx h
    refine ss_cons (Γ1 := [some (.im (D.lst ((script).map D.int))), some (Deck.m q206), none, none, none, none, none, none, none, none, none, none]) (s_forO (R := Bool) (ρ := (fun (r : Bool) => ([none, none, none, none, none, none, none, none, none, none, none, none], (.im (D.bl r))))) (J := [2]) (enc := D.int) (xs := (rng 0 5)) (hx := (fun v => .hid (.im .non) v)) (cond := (fun _ => True)) (f := law_L1) (s0 := p89) (Γs := fun (s90 : Deck) => [some (.im (D.lst ((script).map D.int))), some (Deck.m s90), none, none, none, none, none, none, none, none, none, none]) (Γt := fun (s90 : Deck) (x90 : Int) => [some (.im (D.lst ((script).map D.int))), some (Deck.m s90), some (.im (D.int x90)), none, none, none, none, none, none, none, none, none]) rfl Fix.hid (it_wk (Γ1 := [some (.im (D.lst ((script).map D.int))), some (Deck.m p89), none, none, none, none, none, none, none, none, none, none]) (it_rng1 g_range ee_int (by decide) (by decide)) ⟨rfl, ⟨rfl, trivial⟩⟩) (fun _ => trivial) ?_ ?_ hp205) ?_
    · intro v90 s90 x90
      exact (gt_name 2 sc_law.nd rfl (by first | exact Or.inl rfl | exact Or.inr rfl) (np1 hpin (by decide)) ⟨trivial, trivial⟩ (by decide))
    · intro v90 s90 x90 o90 hf90
      unfold law_L1 at hf90
      obtain ⟨p148, hp148, hf90_⟩ := bsplit hf90; replace hf90 := hf90_; clear hf90_
      refine ss_cons (Γ1 := [some (.im (D.lst ((script).map D.int))), some (Deck.m (p148.2)), some (.im (D.int x90)), some (.im (D.int (1 + (p148.1)))), none, none, none, none, none, none, none, none]) (s_set (Γ1 := [some (.im (D.lst ((script).map D.int))), some (Deck.m (p148.2)), some (.im (D.int x90)), none, none, none, none, none, none, none, none, none]) (m := (.im (D.int (1 + (p148.1))))) 3 sc_law.nd rfl (by first | exact Or.inl rfl | exact Or.inr rfl) (np1 hpin (by decide)) (ee_add ee_int (ee_callX (k := 5) (G_l_draw.mono (by decide)) hr hG g_l_draw kp_l_draw b_l_draw (ea_cons (ee_tk 1 (pv 1)) (ea_cons ee_int ea_nil)) ⟨s90, 6, p148, hp148, rfl, rfl, rfl⟩)) ⟨trivial, trivial⟩) ?_
      obtain ⟨p154, hp154, hf90_⟩ := bsplit hf90; replace hf90 := hf90_; clear hf90_
      refine ss_cons (Γ1 := [some (.im (D.lst ((script).map D.int))), some (Deck.m (p154.2)), some (.im (D.int x90)), some (.im (D.int (1 + (p148.1)))), some (.im (D.tup (((p154.1)).map (eT2 D.str D.int)))), none, none, none, none, none, none, none]) (s_set (Γ1 := [some (.im (D.lst ((script).map D.int))), some (Deck.m (p154.2)), some (.im (D.int x90)), some (.im (D.int (1 + (p148.1)))), none, none, none, none, none, none, none, none]) (m := (.im (D.tup (((p154.1)).map (eT2 D.str D.int))))) 4 sc_law.nd rfl (by first | exact Or.inl rfl | exact Or.inr rfl) (np1 hpin (by decide)) (ee_if (t := .own (.im (D.tup (((p154.1)).map (eT2 D.str D.int))))) (Γ' := [some (.im (D.lst ((script).map D.int))), some (Deck.m (p154.2)), some (.im (D.int x90)), some (.im (D.int (1 + (p148.1)))), none, none, none, none, none, none, none, none]) (et_eqI (ee_var 2 (pv 2)) ee_int) (fun hk => by
            have e149 := (if_t hk).symm.trans hp154; obtain ⟨p151, hp151, e149_⟩ := bsplit e149; replace e149 := e149_; clear e149_; replace e149 := Option.some.inj e149; subst e149; exact (ee_callX (k := 5) (G_l_long_way.mono (by decide)) hr hG g_l_long_way kp_l_long_way b_l_long_way (ea_cons (ee_tk 1 (pv 1)) (ea_cons (ee_var 3 (pv 3)) (ea_cons ee_int ea_nil))) ⟨(p148.2), (1 + (p148.1)), 12, p151, hp151, rfl, rfl, rfl⟩)) (fun hk => by
            have e150 := (if_f hk).symm.trans hp154; obtain ⟨p152, hp152, e150_⟩ := bsplit e150; replace e150 := e150_; clear e150_; obtain ⟨p153, hp153, e150_⟩ := bsplit e150; replace e150 := e150_; clear e150_; replace e150 := Option.some.inj e150; subst e150; exact (ee_callX (k := 5) (G_l_way.mono (by decide)) hr hG g_l_way kp_l_way b_l_way (ea_late (ea_cons (ee_al 1 (pv 1)) (ea_cons (ee_var 3 (pv 3)) (ea_cons (ee_callX (k := 5) (G_l_pick.mono (by decide)) hr hG g_l_pick kp_l_pick b_l_pick (ea_cons (ee_tk 1 (pv 1)) (ea_cons (ee_lock (ee_lst (ds := List.map D.int [2, 6, 12, 24]) (ea_cons ee_int (ea_cons ee_int (ea_cons ee_int (ea_cons ee_int ea_nil)))) (show 4 ≤ 1000 by decide))) ea_nil)) ⟨(p148.2), ([2, 6, 12, 24]).map D.int, ((D.int p152.1), p152.2), pick_map D.int hp152, .inl rfl, rfl, rfl⟩) ea_nil)))) ⟨p152.2, (1 + (p148.1)), p152.1, p153, hp153, rfl, rfl, rfl⟩))) ⟨trivial, trivial⟩) ?_
      obtain ⟨p155, hp155, hf90_⟩ := bsplit hf90; replace hf90 := hf90_; clear hf90_
      obtain ⟨p156, hp156, hf90_⟩ := bsplit hf90; replace hf90 := hf90_; clear hf90_
      obtain ⟨p157, hp157, hf90_⟩ := bsplit hf90; replace hf90 := hf90_; clear hf90_
      refine ss_cons (Γ1 := [some (.im (D.lst ((script).map D.int))), some (Deck.m (p154.2)), some (.im (D.int x90)), some (.im (D.int (1 + (p148.1)))), some (.im (D.tup (((p154.1)).map (eT2 D.str D.int)))), some (.im (D.str p155)), some (.im (D.tup ((p157.2).map D.int))), none, none, none, none, none]) (s_par2 (Γ1 := [some (.im (D.lst ((script).map D.int))), some (Deck.m (p154.2)), some (.im (D.int x90)), some (.im (D.int (1 + (p148.1)))), some (.im (D.tup (((p154.1)).map (eT2 D.str D.int)))), none, none, none, none, none, none, none]) (m1 := (.im (D.str p155))) (m2 := (.im (D.tup ((p157.2).map D.int)))) 5 6 rfl sc_law.nd rfl rfl (by decide) rfl rfl (np1 hpin (by decide)) (np1 hpin (by decide)) ⟨trivial, trivial⟩ ⟨trivial, trivial⟩ (ea_cons (ee_shDD hG hr.units g_repr (ee_var 4 (pv 4)) hp155) (ea_cons (ee_tupOf (ds := List.map D.int p157.2) g_tuple (ee_lc (f := (fun (st : Unit) (x : (Int × (Str × Int))) => some ((), if (decide (((x.2).1) = ("in" : Str))) = true then some (x.1) else none))) (enc := (encI (eT2 D.str D.int))) (eb := D.int) (xs := (numL (p154.1))) (s0 := ()) (hx := (fun v => .hid (.im (.tup (((p154.1)).map (eT2 D.str D.int)))) v)) (cond := (fun _ => True)) (Γs := fun (st : Unit) => [some (.im (D.lst ((script).map D.int))), some (Deck.m (p154.2)), some (.im (D.int x90)), some (.im (D.int (1 + (p148.1)))), some (.im (D.tup (((p154.1)).map (eT2 D.str D.int)))), none, none, none, none, none, none, none]) (Γt := fun (st : Unit) (x : (Int × (Str × Int))) => [some (.im (D.lst ((script).map D.int))), some (Deck.m (p154.2)), some (.im (D.int x90)), some (.im (D.int (1 + (p148.1)))), some (.im (D.tup (((p154.1)).map (eT2 D.str D.int)))), none, none, some (.im (D.int (x.1))), some (.im ((eT2 D.str D.int) (x.2))), none, none, none]) (Γu := fun (st : Unit) (x : (Int × (Str × Int))) => [some (.im (D.lst ((script).map D.int))), some (Deck.m (p154.2)), some (.im (D.int x90)), some (.im (D.int (1 + (p148.1)))), some (.im (D.tup (((p154.1)).map (eT2 D.str D.int)))), none, none, some (.im (D.int (x.1))), some (.im ((eT2 D.str D.int) (x.2))), none, none, none]) (tb := (fun st x => (decide (((x.2).1) = ("in" : Str))))) rfl sc_law.nd (blkOk_by (own := [("place", 7), ("step", 8)]) (N := N_law) (sc := defScope s_law) (by decide +kernel))
   { fx := Fix.hid, it := it_wk (Γ1 := [some (.im (D.lst ((script).map D.int))), some (Deck.m (p154.2)), some (.im (D.int x90)), some (.im (D.int (1 + (p148.1)))), some (.im (D.tup (((p154.1)).map (eT2 D.str D.int)))), none, none, none, none, none, none, none]) (by rw [← enumD_map]; exact it_enumT g_enumerate (ee_var 4 (pv 4))) ⟨rfl, ⟨rfl, ⟨rfl, ⟨rfl, ⟨rfl, trivial⟩⟩⟩⟩⟩, cd := fun _ => trivial, gt := fun s H Ca cl fp v q acc st x => (gt_tup rfl (gts_cons (gt_name 7 sc_law.nd rfl (by first | exact Or.inl rfl | exact Or.inr rfl) (np1 hpin (by decide)) ⟨trivial, ⟨trivial, ⟨trivial, ⟨trivial, trivial⟩⟩⟩⟩ (by decide)) (gts_cons (gt_name 8 sc_law.nd rfl (by first | exact Or.inl rfl | exact Or.inr rfl) (np1 hpin (by decide)) ⟨trivial, ⟨trivial, ⟨trivial, ⟨trivial, trivial⟩⟩⟩⟩ (by decide)) gts_nil))), tt := fun s H Ca cl fp v q acc st x => tests1 (et_eqS (ee_ixT (ee_var 8 (pv 8)) ee_int rfl) ee_str),
        el := fun s H Ca cl fp v q acc st x st' y hk hf => by
            rw [if_t hk] at hf; obtain ⟨hf1, hf2⟩ := Prod.mk.inj (Option.some.inj hf); subst hf1; replace hf2 := Option.some.inj hf2; subst hf2; exact ee_wk (Γ1 := [some (.im (D.lst ((script).map D.int))), some (Deck.m (p154.2)), some (.im (D.int x90)), some (.im (D.int (1 + (p148.1)))), some (.im (D.tup (((p154.1)).map (eT2 D.str D.int)))), none, none, some (.im (D.int (x.1))), some (.im ((eT2 D.str D.int) (x.2))), none, none, none]) (ee_var 7 (pv 7)) ⟨rfl, ⟨rfl, ⟨rfl, ⟨rfl, ⟨rfl, trivial⟩⟩⟩⟩⟩,
        ft := fun st x r hk hf => by cases hf; exact ⟨_, if_t hk⟩,
        ff := fun st x r hk hf => by cases hf; exact ⟨if_f hk, ⟨rfl, ⟨rfl, ⟨rfl, ⟨rfl, ⟨rfl, trivial⟩⟩⟩⟩⟩⟩, br := fun _ => (bare_cons rfl (bare_cons rfl bare_nil)), fr := (freeJ_cons ⟨trivial, ⟨trivial, trivial⟩⟩ (freeJ_cons ⟨trivial, ⟨trivial, trivial⟩⟩ freeJ_nil)), fh := fun v => (freeJ_cons ⟨trivial, trivial⟩ (freeJ_cons ⟨trivial, trivial⟩ freeJ_nil)), pn := pnJ hpin (by decide), ln := (gd_d hp156) }
   hp157) .own) ea_nil))) ?_
      obtain ⟨p162, hp162, hf90_⟩ := bsplit hf90; replace hf90 := hf90_; clear hf90_
      obtain ⟨p163, hp163, hf90_⟩ := bsplit hf90; replace hf90 := hf90_; clear hf90_
      obtain ⟨p167, hp167, hf90_⟩ := bsplit hf90; replace hf90 := hf90_; clear hf90_
      rcases Bool.eq_false_or_eq_true p167 with hk168 | hk168
      · replace hf90 := (if_t hk168).symm.trans hf90
        replace hf90 := Option.some.inj hf90
        subst hf90
        refine ss_exit (s_if (ET.ofW (ew_or (Γ' := [some (.im (D.lst ((script).map D.int))), some (Deck.m (p154.2)), some (.im (D.int x90)), some (.im (D.int (1 + (p148.1)))), some (.im (D.tup (((p154.1)).map (eT2 D.str D.int)))), some (.im (D.str p155)), some (.im (D.tup ((p157.2).map D.int))), none, none, none, none, none]) (k := p167) (et_not (et_val (ee_callX (k := 5) (ms := [.im (D.tup ((p162).map D.int)), .im (D.tup ((p157.2).map D.int))]) (G_l_same.mono (by decide)) hr hG g_l_same kp_l_same b_l_same (ea_cons (ee_if (t := .own (.im (D.tup ((p162).map D.int)))) (Γ' := [some (.im (D.lst ((script).map D.int))), some (Deck.m (p154.2)), some (.im (D.int x90)), some (.im (D.int (1 + (p148.1)))), some (.im (D.tup (((p154.1)).map (eT2 D.str D.int)))), some (.im (D.str p155)), some (.im (D.tup ((p157.2).map D.int))), none, none, none, none, none]) (et_eqI (ee_var 2 (pv 2)) ee_int) (fun hk => by
            have e158 := (if_t hk).symm.trans hp162; obtain ⟨p160, hp160, e158_⟩ := bsplit e158; replace e158 := e158_; clear e158_; replace e158 := Option.some.inj e158; subst e158; exact (ee_callK0 (k := 5) (ds := [(D.tup (((p154.1)).map (eT2 D.str D.int)))]) (ds2 := [(D.tup (((p154.1)).map (eT2 D.str D.int)))]) (G_entries.mono (by decide)) hr hG g_entries kp_entries kt_entries (ek_cons (ee_var 4 (pv 4)) ek_nil) (fun zs H hz => hz) rfl ⟨(p154.1), p160, hp160, rfl, rfl, rfl⟩)) (fun hk => by
            have e159 := (if_f hk).symm.trans hp162; obtain ⟨p161, hp161, e159_⟩ := bsplit e159; replace e159 := e159_; clear e159_; replace e159 := Option.some.inj e159; subst e159; exact (ee_callX (k := 5) (G_entries.mono (by decide)) hr hG g_entries kp_entries b_entries (ea_cons (ee_var 4 (pv 4)) ea_nil) ⟨(p154.1), p161, hp161, rfl, rfl, rfl⟩))) (ea_cons (ee_var 6 (pv 6)) ea_nil)) ⟨(D.tup ((p157.2).map D.int)), (pl_tl pl_int) p157.2, congrArg (fun z => [M.im (D.tup ((z).map D.int)), M.im (D.tup ((p157.2).map D.int))]) (gd_d hp163), rfl, rfl⟩))) (fun hk => by
            have e164 := (if_f hk).symm.trans hp167; obtain ⟨p165, hp165, e164_⟩ := bsplit e164; replace e164 := e164_; clear e164_; obtain ⟨p166, hp166, e164_⟩ := bsplit e164; replace e164 := e164_; clear e164_; replace e164 := Option.some.inj e164; subst e164; exact (ew_or1 (et_not (et_val (ee_callX (k := 5) (ms := [.im (D.tup ((p165).map D.int)), .im (D.tup ((p157.2).map D.int))]) (G_l_same.mono (by decide)) hr hG g_l_same kp_l_same b_l_same (ea_cons (ee_callX (k := 5) (G_entries.mono (by decide)) hr hG g_entries kp_entries b_entries (ea_cons (ee_var 4 (pv 4)) ea_nil) ⟨(p154.1), p165, hp165, rfl, rfl, rfl⟩) (ea_cons (ee_var 6 (pv 6)) ea_nil)) ⟨(D.tup ((p157.2).map D.int)), (pl_tl pl_int) p157.2, congrArg (fun z => [M.im (D.tup ((z).map D.int)), M.im (D.tup ((p157.2).map D.int))]) (gd_d hp166), rfl, rfl⟩))))) (fun hk => by have hq := (if_t hk).symm.trans hp167; cases hq; exact ⟨rfl, rfl⟩))) (fun _ => ?_) (fun z => absurd (z.symm.trans hk168) (by decide))) rfl
        exact ss_exit (s_ret (m := (.im (D.bl false))) ee_bl trivial) rfl
      · replace hf90 := (if_f hk168).symm.trans hf90
        refine ss_cons (Γ1 := [some (.im (D.lst ((script).map D.int))), some (Deck.m (p154.2)), some (.im (D.int x90)), some (.im (D.int (1 + (p148.1)))), some (.im (D.tup (((p154.1)).map (eT2 D.str D.int)))), some (.im (D.str p155)), some (.im (D.tup ((p157.2).map D.int))), none, none, none, none, none]) (s_if (ET.ofW (ew_or (Γ' := [some (.im (D.lst ((script).map D.int))), some (Deck.m (p154.2)), some (.im (D.int x90)), some (.im (D.int (1 + (p148.1)))), some (.im (D.tup (((p154.1)).map (eT2 D.str D.int)))), some (.im (D.str p155)), some (.im (D.tup ((p157.2).map D.int))), none, none, none, none, none]) (k := p167) (et_not (et_val (ee_callX (k := 5) (ms := [.im (D.tup ((p162).map D.int)), .im (D.tup ((p157.2).map D.int))]) (G_l_same.mono (by decide)) hr hG g_l_same kp_l_same b_l_same (ea_cons (ee_if (t := .own (.im (D.tup ((p162).map D.int)))) (Γ' := [some (.im (D.lst ((script).map D.int))), some (Deck.m (p154.2)), some (.im (D.int x90)), some (.im (D.int (1 + (p148.1)))), some (.im (D.tup (((p154.1)).map (eT2 D.str D.int)))), some (.im (D.str p155)), some (.im (D.tup ((p157.2).map D.int))), none, none, none, none, none]) (et_eqI (ee_var 2 (pv 2)) ee_int) (fun hk => by
            have e158 := (if_t hk).symm.trans hp162; obtain ⟨p160, hp160, e158_⟩ := bsplit e158; replace e158 := e158_; clear e158_; replace e158 := Option.some.inj e158; subst e158; exact (ee_callK0 (k := 5) (ds := [(D.tup (((p154.1)).map (eT2 D.str D.int)))]) (ds2 := [(D.tup (((p154.1)).map (eT2 D.str D.int)))]) (G_entries.mono (by decide)) hr hG g_entries kp_entries kt_entries (ek_cons (ee_var 4 (pv 4)) ek_nil) (fun zs H hz => hz) rfl ⟨(p154.1), p160, hp160, rfl, rfl, rfl⟩)) (fun hk => by
            have e159 := (if_f hk).symm.trans hp162; obtain ⟨p161, hp161, e159_⟩ := bsplit e159; replace e159 := e159_; clear e159_; replace e159 := Option.some.inj e159; subst e159; exact (ee_callX (k := 5) (G_entries.mono (by decide)) hr hG g_entries kp_entries b_entries (ea_cons (ee_var 4 (pv 4)) ea_nil) ⟨(p154.1), p161, hp161, rfl, rfl, rfl⟩))) (ea_cons (ee_var 6 (pv 6)) ea_nil)) ⟨(D.tup ((p157.2).map D.int)), (pl_tl pl_int) p157.2, congrArg (fun z => [M.im (D.tup ((z).map D.int)), M.im (D.tup ((p157.2).map D.int))]) (gd_d hp163), rfl, rfl⟩))) (fun hk => by
            have e164 := (if_f hk).symm.trans hp167; obtain ⟨p165, hp165, e164_⟩ := bsplit e164; replace e164 := e164_; clear e164_; obtain ⟨p166, hp166, e164_⟩ := bsplit e164; replace e164 := e164_; clear e164_; replace e164 := Option.some.inj e164; subst e164; exact (ew_or1 (et_not (et_val (ee_callX (k := 5) (ms := [.im (D.tup ((p165).map D.int)), .im (D.tup ((p157.2).map D.int))]) (G_l_same.mono (by decide)) hr hG g_l_same kp_l_same b_l_same (ea_cons (ee_callX (k := 5) (G_entries.mono (by decide)) hr hG g_entries kp_entries b_entries (ea_cons (ee_var 4 (pv 4)) ea_nil) ⟨(p154.1), p165, hp165, rfl, rfl, rfl⟩) (ea_cons (ee_var 6 (pv 6)) ea_nil)) ⟨(D.tup ((p157.2).map D.int)), (pl_tl pl_int) p157.2, congrArg (fun z => [M.im (D.tup ((z).map D.int)), M.im (D.tup ((p157.2).map D.int))]) (gd_d hp166), rfl, rfl⟩))))) (fun hk => by have hq := (if_t hk).symm.trans hp167; cases hq; exact ⟨rfl, rfl⟩))) (fun z => absurd (z.symm.trans hk168) (by decide)) (fun _ => ?_)) ?_
        · exact ss_nil ⟨rfl, ⟨rfl, ⟨rfl, ⟨rfl, ⟨rfl, ⟨rfl, ⟨rfl, trivial⟩⟩⟩⟩⟩⟩⟩
        obtain ⟨p202, hp202, hf90_⟩ := bsplit hf90; replace hf90 := hf90_; clear hf90_
        cases p202 with
        | bk z =>
          exact (outk_bk hf90).elim
        | ct z =>
          exact (outk_ct hf90).elim
        | rt z =>
          replace hf90 := outk_rt hf90
          replace hf90 := Option.some.inj hf90
          subst hf90
          refine ss_exit (o := .rt _ _) (s_forO (R := Bool) (ρ := (fun (r : Bool) => ([none, none, none, none, none, none, none, none, none, none, none, none], (.im (D.bl r))))) (J := [7, 8]) (enc := (encI (eT2 D.str D.int))) (xs := (numL (p154.1))) (hx := (fun v => .hid (.im (.tup (((p154.1)).map (eT2 D.str D.int)))) v)) (cond := (fun _ => True)) (f := (law_L2 (p154.1))) (s0 := ()) (Γs := fun (s169 : Unit) => [some (.im (D.lst ((script).map D.int))), some (Deck.m (p154.2)), some (.im (D.int x90)), some (.im (D.int (1 + (p148.1)))), some (.im (D.tup (((p154.1)).map (eT2 D.str D.int)))), some (.im (D.str p155)), some (.im (D.tup ((p157.2).map D.int))), none, none, none, none, none]) (Γt := fun (s169 : Unit) (x169 : (Int × (Str × Int))) => [some (.im (D.lst ((script).map D.int))), some (Deck.m (p154.2)), some (.im (D.int x90)), some (.im (D.int (1 + (p148.1)))), some (.im (D.tup (((p154.1)).map (eT2 D.str D.int)))), some (.im (D.str p155)), some (.im (D.tup ((p157.2).map D.int))), some (.im (D.int (x169.1))), some (.im ((eT2 D.str D.int) (x169.2))), none, none, none]) rfl Fix.hid (it_wk (Γ1 := [some (.im (D.lst ((script).map D.int))), some (Deck.m (p154.2)), some (.im (D.int x90)), some (.im (D.int (1 + (p148.1)))), some (.im (D.tup (((p154.1)).map (eT2 D.str D.int)))), some (.im (D.str p155)), some (.im (D.tup ((p157.2).map D.int))), none, none, none, none, none]) (by rw [← enumD_map]; exact it_enumT g_enumerate (ee_var 4 (pv 4))) ⟨rfl, ⟨rfl, ⟨rfl, ⟨rfl, ⟨rfl, ⟨rfl, ⟨rfl, trivial⟩⟩⟩⟩⟩⟩⟩) (fun _ => trivial) ?_ ?_ hp202) rfl
          · intro v169 s169 x169
            exact (gt_tup rfl (gts_cons (gt_name 7 sc_law.nd rfl (by first | exact Or.inl rfl | exact Or.inr rfl) (np1 hpin (by decide)) ⟨trivial, ⟨trivial, trivial⟩⟩ (by decide)) (gts_cons (gt_name 8 sc_law.nd rfl (by first | exact Or.inl rfl | exact Or.inr rfl) (np1 hpin (by decide)) ⟨trivial, ⟨trivial, trivial⟩⟩ (by decide)) gts_nil)))
          · intro v169 s169 x169 o169 hf169
            unfold law_L2 at hf169
            obtain ⟨p186, hp186, hf169_⟩ := bsplit hf169; replace hf169 := hf169_; clear hf169_
            refine ss_cons (Γ1 := [some (.im (D.lst ((script).map D.int))), some (Deck.m (p154.2)), some (.im (D.int x90)), some (.im (D.int (1 + (p148.1)))), some (.im (D.tup (((p154.1)).map (eT2 D.str D.int)))), some (.im (D.str p155)), some (.im (D.tup ((p157.2).map D.int))), some (.im (D.int (x169.1))), some (.im ((eT2 D.str D.int) (x169.2))), some (.im (D.tup ((p186).map D.int))), some (.im ((eO D.int) (if (decide (((x169.2).1) = ("in" : Str))) = true then (some ((x169.2).2)) else none))), none]) (s_par2 (Γ1 := [some (.im (D.lst ((script).map D.int))), some (Deck.m (p154.2)), some (.im (D.int x90)), some (.im (D.int (1 + (p148.1)))), some (.im (D.tup (((p154.1)).map (eT2 D.str D.int)))), some (.im (D.str p155)), some (.im (D.tup ((p157.2).map D.int))), some (.im (D.int (x169.1))), some (.im ((eT2 D.str D.int) (x169.2))), none, none, none]) (m1 := (.im (D.tup ((p186).map D.int)))) (m2 := (.im ((eO D.int) (if (decide (((x169.2).1) = ("in" : Str))) = true then (some ((x169.2).2)) else none)))) 9 10 rfl sc_law.nd rfl rfl (by decide) rfl rfl (np1 hpin (by decide)) (np1 hpin (by decide)) ⟨trivial, ⟨trivial, trivial⟩⟩ ⟨trivial, ⟨trivial, trivial⟩⟩ (ea_cons (ee_callX (k := 5) (G_l_held.mono (by decide)) hr hG g_l_held kp_l_held b_l_held (ea_cons (ee_var 4 (pv 4)) (ea_cons (ee_var 7 (pv 7)) ea_nil)) ⟨(p154.1), (x169.1), p186, hp186, rfl, rfl, rfl⟩) (ea_cons (ee_if (t := .own (.im ((eO D.int) (if (decide (((x169.2).1) = ("in" : Str))) = true then (some ((x169.2).2)) else none)))) (Γ' := [some (.im (D.lst ((script).map D.int))), some (Deck.m (p154.2)), some (.im (D.int x90)), some (.im (D.int (1 + (p148.1)))), some (.im (D.tup (((p154.1)).map (eT2 D.str D.int)))), some (.im (D.str p155)), some (.im (D.tup ((p157.2).map D.int))), some (.im (D.int (x169.1))), some (.im ((eT2 D.str D.int) (x169.2))), none, none, none]) (et_eqS (ee_ixT (ee_var 8 (pv 8)) ee_int rfl) ee_str) (fun hk => by rw [if_t hk]; exact (ee_ixT (ee_var 8 (pv 8)) ee_int rfl)) (fun hk => by rw [if_f hk]; exact ee_non)) ea_nil))) ?_
            obtain ⟨p189, hp189, hf169_⟩ := bsplit hf169; replace hf169 := hf169_; clear hf169_
            obtain ⟨p190, hp190, hf169_⟩ := bsplit hf169; replace hf169 := hf169_; clear hf169_
            refine ss_cons (Γ1 := [some (.im (D.lst ((script).map D.int))), some (Deck.m (p154.2)), some (.im (D.int x90)), some (.im (D.int (1 + (p148.1)))), some (.im (D.tup (((p154.1)).map (eT2 D.str D.int)))), some (.im (D.str p155)), some (.im (D.tup ((p157.2).map D.int))), some (.im (D.int (x169.1))), some (.im ((eT2 D.str D.int) (x169.2))), some (.im (D.tup ((p186).map D.int))), some (.im ((eO D.int) (if (decide (((x169.2).1) = ("in" : Str))) = true then (some ((x169.2).2)) else none))), some (.im ((eF2 (eTL D.int) (eO D.int)) (p189, p190)))]) (s_set (Γ1 := [some (.im (D.lst ((script).map D.int))), some (Deck.m (p154.2)), some (.im (D.int x90)), some (.im (D.int (1 + (p148.1)))), some (.im (D.tup (((p154.1)).map (eT2 D.str D.int)))), some (.im (D.str p155)), some (.im (D.tup ((p157.2).map D.int))), some (.im (D.int (x169.1))), some (.im ((eT2 D.str D.int) (x169.2))), some (.im (D.tup ((p186).map D.int))), some (.im ((eO D.int) (if (decide (((x169.2).1) = ("in" : Str))) = true then (some ((x169.2).2)) else none))), none]) (m := (.im ((eF2 (eTL D.int) (eO D.int)) (p189, p190)))) 11 sc_law.nd rfl (by first | exact Or.inl rfl | exact Or.inr rfl) (np1 hpin (by decide)) (ee_lock (ee_lst (ds := [(D.tup ((p189).map D.int)), ((eO D.int) p190)]) (ea_cons (ee_callK0 (k := 5) (ds := [(D.tup (((p154.1)).map (eT2 D.str D.int))), (D.int (x169.1))]) (ds2 := [(D.int (x169.1)), (D.tup (((p154.1)).map (eT2 D.str D.int)))]) (G_held.mono (by decide)) hr hG g_held kp_held ks_held (ek_cons (ee_var 7 (pv 7)) (ek_cons (ee_var 4 (pv 4)) ek_nil)) (fun zs H hz => swp_rD hz) rfl ⟨(p154.1), (x169.1), p189, hp189, rfl, rfl, rfl⟩) (ea_cons (ee_callK0 (k := 5) (ds := [(D.tup (((p154.1)).map (eT2 D.str D.int))), (D.int (x169.1))]) (ds2 := [(D.int (x169.1)), (D.tup (((p154.1)).map (eT2 D.str D.int)))]) (G_wish.mono (by decide)) hr hG g_wish kp_wish ks_wish (ek_cons (ee_var 7 (pv 7)) (ek_cons (ee_var 4 (pv 4)) ek_nil)) (fun zs H hz => swp_rD hz) rfl ⟨(p154.1), (x169.1), p190, hp190, rfl, rfl, rfl⟩) ea_nil)) (show 2 ≤ 1000 by decide))) ⟨trivial, ⟨trivial, trivial⟩⟩) ?_
            obtain ⟨p191, hp191, hf169_⟩ := bsplit hf169; replace hf169 := hf169_; clear hf169_
            obtain ⟨p194, hp194, hf169_⟩ := bsplit hf169; replace hf169 := hf169_; clear hf169_
            rcases Bool.eq_false_or_eq_true p194 with hk195 | hk195
            · replace hf169 := (if_t hk195).symm.trans hf169
              replace hf169 := Option.some.inj hf169
              subst hf169
              refine ss_exit (s_if (ET.ofW (ew_or (Γ' := [some (.im (D.lst ((script).map D.int))), some (Deck.m (p154.2)), some (.im (D.int x90)), some (.im (D.int (1 + (p148.1)))), some (.im (D.tup (((p154.1)).map (eT2 D.str D.int)))), some (.im (D.str p155)), some (.im (D.tup ((p157.2).map D.int))), some (.im (D.int (x169.1))), some (.im ((eT2 D.str D.int) (x169.2))), some (.im (D.tup ((p186).map D.int))), some (.im ((eO D.int) (if (decide (((x169.2).1) = ("in" : Str))) = true then (some ((x169.2).2)) else none))), some (.im ((eF2 (eTL D.int) (eO D.int)) (p189, p190)))]) (k := p194) (et_not (et_val (ee_callX (k := 5) (ms := [.im (D.tup ((((p189, p190).1)).map D.int)), .im (D.tup ((p186).map D.int))]) (G_l_same.mono (by decide)) hr hG g_l_same kp_l_same b_l_same (ea_cons (ee_ixL (ds := [(D.tup ((((p189, p190).1)).map D.int)), ((eO D.int) ((p189, p190).2))]) (ee_var 11 (pv 11)) ee_int .fz rfl) (ea_cons (ee_var 9 (pv 9)) ea_nil)) ⟨(D.tup ((p186).map D.int)), (pl_tl pl_int) p186, congrArg (fun z => [M.im (D.tup ((z).map D.int)), M.im (D.tup ((p186).map D.int))]) (gd_d hp191), rfl, rfl⟩))) (fun hk => by
            have e192 := (if_f hk).symm.trans hp194; obtain ⟨p193, hp193, e192_⟩ := bsplit e192; replace e192 := e192_; clear e192_; replace e192 := Option.some.inj e192; subst e192; exact (ew_or1 (et_not (et_val (ee_callX (k := 5) (ms := [.im ((eO D.int) ((p189, p190).2)), .im ((eO D.int) (if (decide (((x169.2).1) = ("in" : Str))) = true then (some ((x169.2).2)) else none))]) (G_l_same.mono (by decide)) hr hG g_l_same kp_l_same b_l_same (ea_cons (ee_ixL (ds := [(D.tup ((((p189, p190).1)).map D.int)), ((eO D.int) ((p189, p190).2))]) (ee_var 11 (pv 11)) ee_int .fz rfl) (ea_cons (ee_var 10 (pv 10)) ea_nil)) ⟨((eO D.int) (if (decide (((x169.2).1) = ("in" : Str))) = true then (some ((x169.2).2)) else none)), (pl_o pl_int) (if (decide (((x169.2).1) = ("in" : Str))) = true then (some ((x169.2).2)) else none), congrArg (fun z => [M.im ((eO D.int) z), M.im ((eO D.int) (if (decide (((x169.2).1) = ("in" : Str))) = true then (some ((x169.2).2)) else none))]) (gd_d hp193), rfl, rfl⟩))))) (fun hk => by have hq := (if_t hk).symm.trans hp194; cases hq; exact ⟨rfl, rfl⟩))) (fun _ => ?_) (fun z => absurd (z.symm.trans hk195) (by decide))) rfl
              exact ss_exit (s_ret (m := (.im (D.bl false))) ee_bl trivial) rfl
            · replace hf169 := (if_f hk195).symm.trans hf169
              refine ss_cons (Γ1 := [some (.im (D.lst ((script).map D.int))), some (Deck.m (p154.2)), some (.im (D.int x90)), some (.im (D.int (1 + (p148.1)))), some (.im (D.tup (((p154.1)).map (eT2 D.str D.int)))), some (.im (D.str p155)), some (.im (D.tup ((p157.2).map D.int))), some (.im (D.int (x169.1))), some (.im ((eT2 D.str D.int) (x169.2))), some (.im (D.tup ((p186).map D.int))), some (.im ((eO D.int) (if (decide (((x169.2).1) = ("in" : Str))) = true then (some ((x169.2).2)) else none))), some (.im ((eF2 (eTL D.int) (eO D.int)) (p189, p190)))]) (s_if (ET.ofW (ew_or (Γ' := [some (.im (D.lst ((script).map D.int))), some (Deck.m (p154.2)), some (.im (D.int x90)), some (.im (D.int (1 + (p148.1)))), some (.im (D.tup (((p154.1)).map (eT2 D.str D.int)))), some (.im (D.str p155)), some (.im (D.tup ((p157.2).map D.int))), some (.im (D.int (x169.1))), some (.im ((eT2 D.str D.int) (x169.2))), some (.im (D.tup ((p186).map D.int))), some (.im ((eO D.int) (if (decide (((x169.2).1) = ("in" : Str))) = true then (some ((x169.2).2)) else none))), some (.im ((eF2 (eTL D.int) (eO D.int)) (p189, p190)))]) (k := p194) (et_not (et_val (ee_callX (k := 5) (ms := [.im (D.tup ((((p189, p190).1)).map D.int)), .im (D.tup ((p186).map D.int))]) (G_l_same.mono (by decide)) hr hG g_l_same kp_l_same b_l_same (ea_cons (ee_ixL (ds := [(D.tup ((((p189, p190).1)).map D.int)), ((eO D.int) ((p189, p190).2))]) (ee_var 11 (pv 11)) ee_int .fz rfl) (ea_cons (ee_var 9 (pv 9)) ea_nil)) ⟨(D.tup ((p186).map D.int)), (pl_tl pl_int) p186, congrArg (fun z => [M.im (D.tup ((z).map D.int)), M.im (D.tup ((p186).map D.int))]) (gd_d hp191), rfl, rfl⟩))) (fun hk => by
            have e192 := (if_f hk).symm.trans hp194; obtain ⟨p193, hp193, e192_⟩ := bsplit e192; replace e192 := e192_; clear e192_; replace e192 := Option.some.inj e192; subst e192; exact (ew_or1 (et_not (et_val (ee_callX (k := 5) (ms := [.im ((eO D.int) ((p189, p190).2)), .im ((eO D.int) (if (decide (((x169.2).1) = ("in" : Str))) = true then (some ((x169.2).2)) else none))]) (G_l_same.mono (by decide)) hr hG g_l_same kp_l_same b_l_same (ea_cons (ee_ixL (ds := [(D.tup ((((p189, p190).1)).map D.int)), ((eO D.int) ((p189, p190).2))]) (ee_var 11 (pv 11)) ee_int .fz rfl) (ea_cons (ee_var 10 (pv 10)) ea_nil)) ⟨((eO D.int) (if (decide (((x169.2).1) = ("in" : Str))) = true then (some ((x169.2).2)) else none)), (pl_o pl_int) (if (decide (((x169.2).1) = ("in" : Str))) = true then (some ((x169.2).2)) else none), congrArg (fun z => [M.im ((eO D.int) z), M.im ((eO D.int) (if (decide (((x169.2).1) = ("in" : Str))) = true then (some ((x169.2).2)) else none))]) (gd_d hp193), rfl, rfl⟩))))) (fun hk => by have hq := (if_t hk).symm.trans hp194; cases hq; exact ⟨rfl, rfl⟩))) (fun z => absurd (z.symm.trans hk195) (by decide)) (fun _ => ?_)) ?_
              · exact ss_nil ⟨rfl, ⟨rfl, ⟨rfl, ⟨rfl, ⟨rfl, ⟨rfl, ⟨rfl, ⟨rfl, ⟨rfl, ⟨rfl, ⟨rfl, ⟨rfl, trivial⟩⟩⟩⟩⟩⟩⟩⟩⟩⟩⟩⟩
              obtain ⟨p196, hp196, hf169_⟩ := bsplit hf169; replace hf169 := hf169_; clear hf169_
              obtain ⟨p197, hp197, hf169_⟩ := bsplit hf169; replace hf169 := hf169_; clear hf169_
              obtain ⟨p201, hp201, hf169_⟩ := bsplit hf169; replace hf169 := hf169_; clear hf169_
              refine ss_one (s_if (ET.ofW (ew_or (Γ' := [some (.im (D.lst ((script).map D.int))), some (Deck.m (p154.2)), some (.im (D.int x90)), some (.im (D.int (1 + (p148.1)))), some (.im (D.tup (((p154.1)).map (eT2 D.str D.int)))), some (.im (D.str p155)), some (.im (D.tup ((p157.2).map D.int))), some (.im (D.int (x169.1))), some (.im ((eT2 D.str D.int) (x169.2))), some (.im (D.tup ((p186).map D.int))), some (.im ((eO D.int) (if (decide (((x169.2).1) = ("in" : Str))) = true then (some ((x169.2).2)) else none))), some (.im ((eF2 (eTL D.int) (eO D.int)) (p189, p190)))]) (k := p201) (et_not (et_val (ee_callX (k := 5) (ms := [.im (D.tup ((p196).map D.int)), .im (D.tup ((p186).map D.int))]) (G_l_same.mono (by decide)) hr hG g_l_same kp_l_same b_l_same (ea_cons (ee_callX (k := 5) (G_held.mono (by decide)) hr hG g_held kp_held b_held (ea_cons (ee_var 4 (pv 4)) (ea_cons (ee_var 7 (pv 7)) ea_nil)) ⟨(p154.1), (x169.1), p196, hp196, rfl, rfl, rfl⟩) (ea_cons (ee_var 9 (pv 9)) ea_nil)) ⟨(D.tup ((p186).map D.int)), (pl_tl pl_int) p186, congrArg (fun z => [M.im (D.tup ((z).map D.int)), M.im (D.tup ((p186).map D.int))]) (gd_d hp197), rfl, rfl⟩))) (fun hk => by
            have e198 := (if_f hk).symm.trans hp201; obtain ⟨p199, hp199, e198_⟩ := bsplit e198; replace e198 := e198_; clear e198_; obtain ⟨p200, hp200, e198_⟩ := bsplit e198; replace e198 := e198_; clear e198_; replace e198 := Option.some.inj e198; subst e198; exact (ew_or1 (et_not (et_val (ee_callX (k := 5) (ms := [.im ((eO D.int) p199), .im ((eO D.int) (if (decide (((x169.2).1) = ("in" : Str))) = true then (some ((x169.2).2)) else none))]) (G_l_same.mono (by decide)) hr hG g_l_same kp_l_same b_l_same (ea_cons (ee_callX (k := 5) (G_wish.mono (by decide)) hr hG g_wish kp_wish b_wish (ea_cons (ee_var 4 (pv 4)) (ea_cons (ee_var 7 (pv 7)) ea_nil)) ⟨(p154.1), (x169.1), p199, hp199, rfl, rfl, rfl⟩) (ea_cons (ee_var 10 (pv 10)) ea_nil)) ⟨((eO D.int) (if (decide (((x169.2).1) = ("in" : Str))) = true then (some ((x169.2).2)) else none)), (pl_o pl_int) (if (decide (((x169.2).1) = ("in" : Str))) = true then (some ((x169.2).2)) else none), congrArg (fun z => [M.im ((eO D.int) z), M.im ((eO D.int) (if (decide (((x169.2).1) = ("in" : Str))) = true then (some ((x169.2).2)) else none))]) (gd_d hp200), rfl, rfl⟩))))) (fun hk => by have hq := (if_t hk).symm.trans hp201; cases hq; exact ⟨rfl, rfl⟩))) (fun hk => ?_) (fun hk => ?_))
              · replace hf169 := (if_t hk).symm.trans hf169
                replace hf169 := Option.some.inj hf169
                subst hf169
                exact ss_exit (s_ret (m := (.im (D.bl false))) ee_bl trivial) rfl
              · replace hf169 := (if_f hk).symm.trans hf169
                replace hf169 := Option.some.inj hf169
                subst hf169
                exact ss_nil ⟨rfl, ⟨rfl, ⟨rfl, ⟨rfl, ⟨rfl, ⟨rfl, ⟨rfl, trivial⟩⟩⟩⟩⟩⟩⟩
        | nx q203 =>
          replace hf90 := outk_nx hf90
          refine ss_cons (Γ1 := [some (.im (D.lst ((script).map D.int))), some (Deck.m (p154.2)), some (.im (D.int x90)), some (.im (D.int (1 + (p148.1)))), some (.im (D.tup (((p154.1)).map (eT2 D.str D.int)))), some (.im (D.str p155)), some (.im (D.tup ((p157.2).map D.int))), none, none, none, none, none]) (s_forO (R := Bool) (ρ := (fun (r : Bool) => ([none, none, none, none, none, none, none, none, none, none, none, none], (.im (D.bl r))))) (J := [7, 8]) (enc := (encI (eT2 D.str D.int))) (xs := (numL (p154.1))) (hx := (fun v => .hid (.im (.tup (((p154.1)).map (eT2 D.str D.int)))) v)) (cond := (fun _ => True)) (f := (law_L2 (p154.1))) (s0 := ()) (Γs := fun (s169 : Unit) => [some (.im (D.lst ((script).map D.int))), some (Deck.m (p154.2)), some (.im (D.int x90)), some (.im (D.int (1 + (p148.1)))), some (.im (D.tup (((p154.1)).map (eT2 D.str D.int)))), some (.im (D.str p155)), some (.im (D.tup ((p157.2).map D.int))), none, none, none, none, none]) (Γt := fun (s169 : Unit) (x169 : (Int × (Str × Int))) => [some (.im (D.lst ((script).map D.int))), some (Deck.m (p154.2)), some (.im (D.int x90)), some (.im (D.int (1 + (p148.1)))), some (.im (D.tup (((p154.1)).map (eT2 D.str D.int)))), some (.im (D.str p155)), some (.im (D.tup ((p157.2).map D.int))), some (.im (D.int (x169.1))), some (.im ((eT2 D.str D.int) (x169.2))), none, none, none]) rfl Fix.hid (it_wk (Γ1 := [some (.im (D.lst ((script).map D.int))), some (Deck.m (p154.2)), some (.im (D.int x90)), some (.im (D.int (1 + (p148.1)))), some (.im (D.tup (((p154.1)).map (eT2 D.str D.int)))), some (.im (D.str p155)), some (.im (D.tup ((p157.2).map D.int))), none, none, none, none, none]) (by rw [← enumD_map]; exact it_enumT g_enumerate (ee_var 4 (pv 4))) ⟨rfl, ⟨rfl, ⟨rfl, ⟨rfl, ⟨rfl, ⟨rfl, ⟨rfl, trivial⟩⟩⟩⟩⟩⟩⟩) (fun _ => trivial) ?_ ?_ hp202) ?_
          · intro v169 s169 x169
            exact (gt_tup rfl (gts_cons (gt_name 7 sc_law.nd rfl (by first | exact Or.inl rfl | exact Or.inr rfl) (np1 hpin (by decide)) ⟨trivial, ⟨trivial, trivial⟩⟩ (by decide)) (gts_cons (gt_name 8 sc_law.nd rfl (by first | exact Or.inl rfl | exact Or.inr rfl) (np1 hpin (by decide)) ⟨trivial, ⟨trivial, trivial⟩⟩ (by decide)) gts_nil)))
          · intro v169 s169 x169 o169 hf169
            unfold law_L2 at hf169
            obtain ⟨p186, hp186, hf169_⟩ := bsplit hf169; replace hf169 := hf169_; clear hf169_
            refine ss_cons (Γ1 := [some (.im (D.lst ((script).map D.int))), some (Deck.m (p154.2)), some (.im (D.int x90)), some (.im (D.int (1 + (p148.1)))), some (.im (D.tup (((p154.1)).map (eT2 D.str D.int)))), some (.im (D.str p155)), some (.im (D.tup ((p157.2).map D.int))), some (.im (D.int (x169.1))), some (.im ((eT2 D.str D.int) (x169.2))), some (.im (D.tup ((p186).map D.int))), some (.im ((eO D.int) (if (decide (((x169.2).1) = ("in" : Str))) = true then (some ((x169.2).2)) else none))), none]) (s_par2 (Γ1 := [some (.im (D.lst ((script).map D.int))), some (Deck.m (p154.2)), some (.im (D.int x90)), some (.im (D.int (1 + (p148.1)))), some (.im (D.tup (((p154.1)).map (eT2 D.str D.int)))), some (.im (D.str p155)), some (.im (D.tup ((p157.2).map D.int))), some (.im (D.int (x169.1))), some (.im ((eT2 D.str D.int) (x169.2))), none, none, none]) (m1 := (.im (D.tup ((p186).map D.int)))) (m2 := (.im ((eO D.int) (if (decide (((x169.2).1) = ("in" : Str))) = true then (some ((x169.2).2)) else none)))) 9 10 rfl sc_law.nd rfl rfl (by decide) rfl rfl (np1 hpin (by decide)) (np1 hpin (by decide)) ⟨trivial, ⟨trivial, trivial⟩⟩ ⟨trivial, ⟨trivial, trivial⟩⟩ (ea_cons (ee_callX (k := 5) (G_l_held.mono (by decide)) hr hG g_l_held kp_l_held b_l_held (ea_cons (ee_var 4 (pv 4)) (ea_cons (ee_var 7 (pv 7)) ea_nil)) ⟨(p154.1), (x169.1), p186, hp186, rfl, rfl, rfl⟩) (ea_cons (ee_if (t := .own (.im ((eO D.int) (if (decide (((x169.2).1) = ("in" : Str))) = true then (some ((x169.2).2)) else none)))) (Γ' := [some (.im (D.lst ((script).map D.int))), some (Deck.m (p154.2)), some (.im (D.int x90)), some (.im (D.int (1 + (p148.1)))), some (.im (D.tup (((p154.1)).map (eT2 D.str D.int)))), some (.im (D.str p155)), some (.im (D.tup ((p157.2).map D.int))), some (.im (D.int (x169.1))), some (.im ((eT2 D.str D.int) (x169.2))), none, none, none]) (et_eqS (ee_ixT (ee_var 8 (pv 8)) ee_int rfl) ee_str) (fun hk => by rw [if_t hk]; exact (ee_ixT (ee_var 8 (pv 8)) ee_int rfl)) (fun hk => by rw [if_f hk]; exact ee_non)) ea_nil))) ?_
            obtain ⟨p189, hp189, hf169_⟩ := bsplit hf169; replace hf169 := hf169_; clear hf169_
            obtain ⟨p190, hp190, hf169_⟩ := bsplit hf169; replace hf169 := hf169_; clear hf169_
            refine ss_cons (Γ1 := [some (.im (D.lst ((script).map D.int))), some (Deck.m (p154.2)), some (.im (D.int x90)), some (.im (D.int (1 + (p148.1)))), some (.im (D.tup (((p154.1)).map (eT2 D.str D.int)))), some (.im (D.str p155)), some (.im (D.tup ((p157.2).map D.int))), some (.im (D.int (x169.1))), some (.im ((eT2 D.str D.int) (x169.2))), some (.im (D.tup ((p186).map D.int))), some (.im ((eO D.int) (if (decide (((x169.2).1) = ("in" : Str))) = true then (some ((x169.2).2)) else none))), some (.im ((eF2 (eTL D.int) (eO D.int)) (p189, p190)))]) (s_set (Γ1 := [some (.im (D.lst ((script).map D.int))), some (Deck.m (p154.2)), some (.im (D.int x90)), some (.im (D.int (1 + (p148.1)))), some (.im (D.tup (((p154.1)).map (eT2 D.str D.int)))), some (.im (D.str p155)), some (.im (D.tup ((p157.2).map D.int))), some (.im (D.int (x169.1))), some (.im ((eT2 D.str D.int) (x169.2))), some (.im (D.tup ((p186).map D.int))), some (.im ((eO D.int) (if (decide (((x169.2).1) = ("in" : Str))) = true then (some ((x169.2).2)) else none))), none]) (m := (.im ((eF2 (eTL D.int) (eO D.int)) (p189, p190)))) 11 sc_law.nd rfl (by first | exact Or.inl rfl | exact Or.inr rfl) (np1 hpin (by decide)) (ee_lock (ee_lst (ds := [(D.tup ((p189).map D.int)), ((eO D.int) p190)]) (ea_cons (ee_callK0 (k := 5) (ds := [(D.tup (((p154.1)).map (eT2 D.str D.int))), (D.int (x169.1))]) (ds2 := [(D.int (x169.1)), (D.tup (((p154.1)).map (eT2 D.str D.int)))]) (G_held.mono (by decide)) hr hG g_held kp_held ks_held (ek_cons (ee_var 7 (pv 7)) (ek_cons (ee_var 4 (pv 4)) ek_nil)) (fun zs H hz => swp_rD hz) rfl ⟨(p154.1), (x169.1), p189, hp189, rfl, rfl, rfl⟩) (ea_cons (ee_callK0 (k := 5) (ds := [(D.tup (((p154.1)).map (eT2 D.str D.int))), (D.int (x169.1))]) (ds2 := [(D.int (x169.1)), (D.tup (((p154.1)).map (eT2 D.str D.int)))]) (G_wish.mono (by decide)) hr hG g_wish kp_wish ks_wish (ek_cons (ee_var 7 (pv 7)) (ek_cons (ee_var 4 (pv 4)) ek_nil)) (fun zs H hz => swp_rD hz) rfl ⟨(p154.1), (x169.1), p190, hp190, rfl, rfl, rfl⟩) ea_nil)) (show 2 ≤ 1000 by decide))) ⟨trivial, ⟨trivial, trivial⟩⟩) ?_
            obtain ⟨p191, hp191, hf169_⟩ := bsplit hf169; replace hf169 := hf169_; clear hf169_
            obtain ⟨p194, hp194, hf169_⟩ := bsplit hf169; replace hf169 := hf169_; clear hf169_
            rcases Bool.eq_false_or_eq_true p194 with hk195 | hk195
            · replace hf169 := (if_t hk195).symm.trans hf169
              replace hf169 := Option.some.inj hf169
              subst hf169
              refine ss_exit (s_if (ET.ofW (ew_or (Γ' := [some (.im (D.lst ((script).map D.int))), some (Deck.m (p154.2)), some (.im (D.int x90)), some (.im (D.int (1 + (p148.1)))), some (.im (D.tup (((p154.1)).map (eT2 D.str D.int)))), some (.im (D.str p155)), some (.im (D.tup ((p157.2).map D.int))), some (.im (D.int (x169.1))), some (.im ((eT2 D.str D.int) (x169.2))), some (.im (D.tup ((p186).map D.int))), some (.im ((eO D.int) (if (decide (((x169.2).1) = ("in" : Str))) = true then (some ((x169.2).2)) else none))), some (.im ((eF2 (eTL D.int) (eO D.int)) (p189, p190)))]) (k := p194) (et_not (et_val (ee_callX (k := 5) (ms := [.im (D.tup ((((p189, p190).1)).map D.int)), .im (D.tup ((p186).map D.int))]) (G_l_same.mono (by decide)) hr hG g_l_same kp_l_same b_l_same (ea_cons (ee_ixL (ds := [(D.tup ((((p189, p190).1)).map D.int)), ((eO D.int) ((p189, p190).2))]) (ee_var 11 (pv 11)) ee_int .fz rfl) (ea_cons (ee_var 9 (pv 9)) ea_nil)) ⟨(D.tup ((p186).map D.int)), (pl_tl pl_int) p186, congrArg (fun z => [M.im (D.tup ((z).map D.int)), M.im (D.tup ((p186).map D.int))]) (gd_d hp191), rfl, rfl⟩))) (fun hk => by
            have e192 := (if_f hk).symm.trans hp194; obtain ⟨p193, hp193, e192_⟩ := bsplit e192; replace e192 := e192_; clear e192_; replace e192 := Option.some.inj e192; subst e192; exact (ew_or1 (et_not (et_val (ee_callX (k := 5) (ms := [.im ((eO D.int) ((p189, p190).2)), .im ((eO D.int) (if (decide (((x169.2).1) = ("in" : Str))) = true then (some ((x169.2).2)) else none))]) (G_l_same.mono (by decide)) hr hG g_l_same kp_l_same b_l_same (ea_cons (ee_ixL (ds := [(D.tup ((((p189, p190).1)).map D.int)), ((eO D.int) ((p189, p190).2))]) (ee_var 11 (pv 11)) ee_int .fz rfl) (ea_cons (ee_var 10 (pv 10)) ea_nil)) ⟨((eO D.int) (if (decide (((x169.2).1) = ("in" : Str))) = true then (some ((x169.2).2)) else none)), (pl_o pl_int) (if (decide (((x169.2).1) = ("in" : Str))) = true then (some ((x169.2).2)) else none), congrArg (fun z => [M.im ((eO D.int) z), M.im ((eO D.int) (if (decide (((x169.2).1) = ("in" : Str))) = true then (some ((x169.2).2)) else none))]) (gd_d hp193), rfl, rfl⟩))))) (fun hk => by have hq := (if_t hk).symm.trans hp194; cases hq; exact ⟨rfl, rfl⟩))) (fun _ => ?_) (fun z => absurd (z.symm.trans hk195) (by decide))) rfl
              exact ss_exit (s_ret (m := (.im (D.bl false))) ee_bl trivial) rfl
            · replace hf169 := (if_f hk195).symm.trans hf169
              refine ss_cons (Γ1 := [some (.im (D.lst ((script).map D.int))), some (Deck.m (p154.2)), some (.im (D.int x90)), some (.im (D.int (1 + (p148.1)))), some (.im (D.tup (((p154.1)).map (eT2 D.str D.int)))), some (.im (D.str p155)), some (.im (D.tup ((p157.2).map D.int))), some (.im (D.int (x169.1))), some (.im ((eT2 D.str D.int) (x169.2))), some (.im (D.tup ((p186).map D.int))), some (.im ((eO D.int) (if (decide (((x169.2).1) = ("in" : Str))) = true then (some ((x169.2).2)) else none))), some (.im ((eF2 (eTL D.int) (eO D.int)) (p189, p190)))]) (s_if (ET.ofW (ew_or (Γ' := [some (.im (D.lst ((script).map D.int))), some (Deck.m (p154.2)), some (.im (D.int x90)), some (.im (D.int (1 + (p148.1)))), some (.im (D.tup (((p154.1)).map (eT2 D.str D.int)))), some (.im (D.str p155)), some (.im (D.tup ((p157.2).map D.int))), some (.im (D.int (x169.1))), some (.im ((eT2 D.str D.int) (x169.2))), some (.im (D.tup ((p186).map D.int))), some (.im ((eO D.int) (if (decide (((x169.2).1) = ("in" : Str))) = true then (some ((x169.2).2)) else none))), some (.im ((eF2 (eTL D.int) (eO D.int)) (p189, p190)))]) (k := p194) (et_not (et_val (ee_callX (k := 5) (ms := [.im (D.tup ((((p189, p190).1)).map D.int)), .im (D.tup ((p186).map D.int))]) (G_l_same.mono (by decide)) hr hG g_l_same kp_l_same b_l_same (ea_cons (ee_ixL (ds := [(D.tup ((((p189, p190).1)).map D.int)), ((eO D.int) ((p189, p190).2))]) (ee_var 11 (pv 11)) ee_int .fz rfl) (ea_cons (ee_var 9 (pv 9)) ea_nil)) ⟨(D.tup ((p186).map D.int)), (pl_tl pl_int) p186, congrArg (fun z => [M.im (D.tup ((z).map D.int)), M.im (D.tup ((p186).map D.int))]) (gd_d hp191), rfl, rfl⟩))) (fun hk => by
            have e192 := (if_f hk).symm.trans hp194; obtain ⟨p193, hp193, e192_⟩ := bsplit e192; replace e192 := e192_; clear e192_; replace e192 := Option.some.inj e192; subst e192; exact (ew_or1 (et_not (et_val (ee_callX (k := 5) (ms := [.im ((eO D.int) ((p189, p190).2)), .im ((eO D.int) (if (decide (((x169.2).1) = ("in" : Str))) = true then (some ((x169.2).2)) else none))]) (G_l_same.mono (by decide)) hr hG g_l_same kp_l_same b_l_same (ea_cons (ee_ixL (ds := [(D.tup ((((p189, p190).1)).map D.int)), ((eO D.int) ((p189, p190).2))]) (ee_var 11 (pv 11)) ee_int .fz rfl) (ea_cons (ee_var 10 (pv 10)) ea_nil)) ⟨((eO D.int) (if (decide (((x169.2).1) = ("in" : Str))) = true then (some ((x169.2).2)) else none)), (pl_o pl_int) (if (decide (((x169.2).1) = ("in" : Str))) = true then (some ((x169.2).2)) else none), congrArg (fun z => [M.im ((eO D.int) z), M.im ((eO D.int) (if (decide (((x169.2).1) = ("in" : Str))) = true then (some ((x169.2).2)) else none))]) (gd_d hp193), rfl, rfl⟩))))) (fun hk => by have hq := (if_t hk).symm.trans hp194; cases hq; exact ⟨rfl, rfl⟩))) (fun z => absurd (z.symm.trans hk195) (by decide)) (fun _ => ?_)) ?_
              · exact ss_nil ⟨rfl, ⟨rfl, ⟨rfl, ⟨rfl, ⟨rfl, ⟨rfl, ⟨rfl, ⟨rfl, ⟨rfl, ⟨rfl, ⟨rfl, ⟨rfl, trivial⟩⟩⟩⟩⟩⟩⟩⟩⟩⟩⟩⟩
              obtain ⟨p196, hp196, hf169_⟩ := bsplit hf169; replace hf169 := hf169_; clear hf169_
              obtain ⟨p197, hp197, hf169_⟩ := bsplit hf169; replace hf169 := hf169_; clear hf169_
              obtain ⟨p201, hp201, hf169_⟩ := bsplit hf169; replace hf169 := hf169_; clear hf169_
              refine ss_one (s_if (ET.ofW (ew_or (Γ' := [some (.im (D.lst ((script).map D.int))), some (Deck.m (p154.2)), some (.im (D.int x90)), some (.im (D.int (1 + (p148.1)))), some (.im (D.tup (((p154.1)).map (eT2 D.str D.int)))), some (.im (D.str p155)), some (.im (D.tup ((p157.2).map D.int))), some (.im (D.int (x169.1))), some (.im ((eT2 D.str D.int) (x169.2))), some (.im (D.tup ((p186).map D.int))), some (.im ((eO D.int) (if (decide (((x169.2).1) = ("in" : Str))) = true then (some ((x169.2).2)) else none))), some (.im ((eF2 (eTL D.int) (eO D.int)) (p189, p190)))]) (k := p201) (et_not (et_val (ee_callX (k := 5) (ms := [.im (D.tup ((p196).map D.int)), .im (D.tup ((p186).map D.int))]) (G_l_same.mono (by decide)) hr hG g_l_same kp_l_same b_l_same (ea_cons (ee_callX (k := 5) (G_held.mono (by decide)) hr hG g_held kp_held b_held (ea_cons (ee_var 4 (pv 4)) (ea_cons (ee_var 7 (pv 7)) ea_nil)) ⟨(p154.1), (x169.1), p196, hp196, rfl, rfl, rfl⟩) (ea_cons (ee_var 9 (pv 9)) ea_nil)) ⟨(D.tup ((p186).map D.int)), (pl_tl pl_int) p186, congrArg (fun z => [M.im (D.tup ((z).map D.int)), M.im (D.tup ((p186).map D.int))]) (gd_d hp197), rfl, rfl⟩))) (fun hk => by
            have e198 := (if_f hk).symm.trans hp201; obtain ⟨p199, hp199, e198_⟩ := bsplit e198; replace e198 := e198_; clear e198_; obtain ⟨p200, hp200, e198_⟩ := bsplit e198; replace e198 := e198_; clear e198_; replace e198 := Option.some.inj e198; subst e198; exact (ew_or1 (et_not (et_val (ee_callX (k := 5) (ms := [.im ((eO D.int) p199), .im ((eO D.int) (if (decide (((x169.2).1) = ("in" : Str))) = true then (some ((x169.2).2)) else none))]) (G_l_same.mono (by decide)) hr hG g_l_same kp_l_same b_l_same (ea_cons (ee_callX (k := 5) (G_wish.mono (by decide)) hr hG g_wish kp_wish b_wish (ea_cons (ee_var 4 (pv 4)) (ea_cons (ee_var 7 (pv 7)) ea_nil)) ⟨(p154.1), (x169.1), p199, hp199, rfl, rfl, rfl⟩) (ea_cons (ee_var 10 (pv 10)) ea_nil)) ⟨((eO D.int) (if (decide (((x169.2).1) = ("in" : Str))) = true then (some ((x169.2).2)) else none)), (pl_o pl_int) (if (decide (((x169.2).1) = ("in" : Str))) = true then (some ((x169.2).2)) else none), congrArg (fun z => [M.im ((eO D.int) z), M.im ((eO D.int) (if (decide (((x169.2).1) = ("in" : Str))) = true then (some ((x169.2).2)) else none))]) (gd_d hp200), rfl, rfl⟩))))) (fun hk => by have hq := (if_t hk).symm.trans hp201; cases hq; exact ⟨rfl, rfl⟩))) (fun hk => ?_) (fun hk => ?_))
              · replace hf169 := (if_t hk).symm.trans hf169
                replace hf169 := Option.some.inj hf169
                subst hf169
                exact ss_exit (s_ret (m := (.im (D.bl false))) ee_bl trivial) rfl
              · replace hf169 := (if_f hk).symm.trans hf169
                replace hf169 := Option.some.inj hf169
                subst hf169
                exact ss_nil ⟨rfl, ⟨rfl, ⟨rfl, ⟨rfl, ⟨rfl, ⟨rfl, ⟨rfl, trivial⟩⟩⟩⟩⟩⟩⟩
          obtain ⟨p204, hp204, hf90_⟩ := bsplit hf90; replace hf90 := hf90_; clear hf90_
          refine ss_one (s_if (et_neS (ee_shDD hG hr.units g_repr (ee_var 4 (pv 4)) hp204) (ee_var 5 (pv 5))) (fun hk => ?_) (fun hk => ?_))
          · replace hf90 := (if_t hk).symm.trans hf90
            replace hf90 := Option.some.inj hf90
            subst hf90
            exact ss_exit (s_ret (m := (.im (D.bl false))) ee_bl trivial) rfl
          · replace hf90 := (if_f hk).symm.trans hf90
            replace hf90 := Option.some.inj hf90
            subst hf90
            exact ss_nil ⟨rfl, ⟨rfl, trivial⟩⟩
    replace h := Option.some.inj h
    subst h
    exact ss_exit (s_ret (m := (.im (D.bl true))) ee_bl trivial) rfl
end LW

set_option maxHeartbeats 1000000
namespace LW
open PySem L2 RL
/-! ### the law in plain Lean -/
theorem big {n : Nat} (h : n ≤ 10000) : n ≤ sizeLine := Nat.le_trans h (by decide)
theorem bigl {n : Nat} (h : n ≤ 10000) : n < sizeLine := Nat.lt_of_le_of_lt h (by decide)
theorem deck_tot {ns : List Int} (h : ns.length ≤ 63) : ∃ d, l_deck_m ns = some d ∧ d.ok := by
  unfold l_deck_m
  have hc : cutL ns none (some 63) = ns := by
    have := cutL_to (xs := ns) (n := 63)
    rw [List.take_of_length_le h] at this
    exact this
  rw [hc]
  refine bex (gdd (big (by omega))) (bex lcM_mapU ?_)
  have hs : ∀ (xs : List Int) (s : Int), ∃ s', forS l_deck_L1 s xs = some s' := fun xs s => by
    obtain ⟨s', h', _⟩ := forS_ex (f := l_deck_L1) (fun _ _ => True) (xs := xs) (ys := []) (s := s) (fun zs x s _ _ => ⟨_, rfl, trivial⟩) trivial
    exact ⟨s', h'⟩
  obtain ⟨s', h'⟩ := hs _ _
  refine bex h' (bex (gdd (big (by simp; omega))) (bex (lcM_filterU (g := fun x => x)) ⟨_, rfl, ?_⟩))
  show (List.reverse _).length ≤ 63
  rw [List.length_reverse, List.length_map]
  refine Nat.le_trans (List.length_filter_le _ _) ?_
  rw [List.length_map]
  exact h
/-- a step of a way -/
def okS (s : Str × Int) : Prop := (s.1 = "in" ∨ s.1 = "out") ∧ 0 ≤ s.2 ∧ s.2 < 8
structure Good (way : List (Str × Int)) : Prop where
  len : way.length ≤ 40
  all : ∀ s ∈ way, okS s
  run : ∃ r, forS held_L1 [] way = some r
theorem in_out : ¬ (Str.ofString "out" = Str.ofString "in") := by decide
theorem held_in {s : List Int} {r : Int} (h : s.length ≤ 1000) : held_L1 s (("in" : Str), r) = some (s ++ [r]) := by
  unfold held_L1
  rw [if_pos (decide_eq_true rfl), gdd (bigl (by omega))] <;> rfl
theorem held_out {s : List Int} {r v : Int} (h : s.getLast? = some v) : held_L1 s (("out" : Str), r) = some s.dropLast := by
  unfold held_L1
  rw [if_neg (fun z => in_out (of_decide_eq_true z)), h] <;> rfl
theorem snoc_last {s : List Int} {r : Int} : (s ++ [r]).getLast? = some r := by simp
theorem held_tot {way : List (Str × Int)} (g : Good way) (n : Nat) : ∃ r, held_m way n = some r := by
  obtain ⟨r, hr⟩ := g.run
  unfold held_m
  rw [cutL_to]
  obtain ⟨s, hs⟩ := forS_take n hr
  exact ⟨s, by rw [hs] <;> rfl⟩
theorem l_held_eq : l_held_m = held_m := rfl
theorem good_fine {way : List (Str × Int)} (g : Good way) : ∃ s, shDD (D.tup (way.map (eT2 D.str D.int))) = some s := by
  refine shDD_ok (k := 2) (n := 40 * (2 * (4 + 1) + 1)) (fine_tup (fine_map fun x hx => ?_) (by rw [List.length_map]; exact g.len)) (by omega) (by omega)
  obtain ⟨h1, h2, h3⟩ := g.all x hx
  refine fine_tup (n := 4) (m := 2) (fine_two ?_ (fine_int (by omega))) (by simp)
  rcases h1 with e | e
  · rw [e]; exact fine_str (by decide +kernel) (by decide)
  · rw [e]; exact fine_str (by decide +kernel) (by decide)
/-! #### a drawn way -/
def winv (s : Deck × Int × List (Str × Int) × List Int) : Prop := s.1.ok ∧ 0 ≤ s.2.1 ∧ forS held_L1 [] s.2.2.1 = some s.2.2.2 ∧ s.2.2.1.length + 2 * s.2.1.toNat + s.2.2.2.length ≤ 26 ∧ (∀ x ∈ s.2.2.1, okS x) ∧ ∀ r ∈ s.2.2.2, 0 ≤ r ∧ r < 8
def wmu (s : Deck × Int × List (Str × Int) × List Int) : Nat := 2 * s.2.1.toNat + s.2.2.2.length
theorem way_step {rooms : Int} (h1 : 1 ≤ rooms) (h2 : rooms ≤ 6) (s : Deck × Int × List (Str × Int) × List Int) (i : winv s) (hc : l_way_L1c rooms s = true) : ∃ s', l_way_L1 rooms s = some s' ∧ (winv s' ∧ wmu s' < wmu s) := by
  obtain ⟨dk, count, steps, inside⟩ := s
  obtain ⟨i1, i2, i3, i4, i5, i6⟩ := i
  simp only at i1 i2 i3 i4 i5 i6
  have lr : (rng 0 rooms).length ≤ 6 := by rw [rng_length]; omega
  unfold l_way_L1
  simp only
  refine bex (gdd (by omega)) (bex (gdd (by omega)) (bex (gdd (big (by omega))) (bex (lcM_filterU (g := fun x => x)) ?_)))
  simp only [List.map_id']
  have fl : ((rng 0 rooms).filter fun x => !decide (x ∈ inside)).length ≤ 6 := Nat.le_trans (List.length_filter_le _ _) lr
  have cnd : ∃ p : Bool × Deck, (if (!inside.isEmpty) = true then ((if (decide (count = 0)) = true then (some (true, dk)) else ((if ((rng 0 rooms).filter fun x => !decide (x ∈ inside)).isEmpty = true then (some (true, dk)) else ((draw_m dk 5).bind fun p28 => some ((decide ((p28.1) < 2)), (p28.2)))).bind fun p29 => some ((p29.1), (p29.2)))).bind fun p30 => some ((p30.1), (p30.2))) else (some (false, dk))) = some p ∧ (p.2.ok ∧ (p.1 = true → inside ≠ []) ∧ (p.1 = false → 1 ≤ count ∧ ((rng 0 rooms).filter fun x => !decide (x ∈ inside)) ≠ [])) := by
    refine iex (fun hi => ?_) fun hi => ?_
    · have ne : inside ≠ [] := fun z => by rw [z] at hi; cases hi
      have inner : ∃ p : Bool × Deck, (if (decide (count = 0)) = true then (some (true, dk)) else ((if ((rng 0 rooms).filter fun x => !decide (x ∈ inside)).isEmpty = true then (some (true, dk)) else ((draw_m dk 5).bind fun p28 => some ((decide ((p28.1) < 2)), (p28.2)))).bind fun p29 => some ((p29.1), (p29.2)))) = some p ∧ (p.2.ok ∧ (p.1 = false → 1 ≤ count ∧ ((rng 0 rooms).filter fun x => !decide (x ∈ inside)) ≠ [])) := by
        refine iex (fun _ => ⟨_, rfl, i1, fun z => by cases z⟩) fun h0 => ?_
        have c1 : 1 ≤ count := by have := of_decide_eq_false h0; omega
        have in2 : ∃ p : Bool × Deck, (if ((rng 0 rooms).filter fun x => !decide (x ∈ inside)).isEmpty = true then (some (true, dk)) else ((draw_m dk 5).bind fun p28 => some ((decide ((p28.1) < 2)), (p28.2)))) = some p ∧ (p.2.ok ∧ (p.1 = false → 1 ≤ count ∧ ((rng 0 rooms).filter fun x => !decide (x ∈ inside)) ≠ [])) := by
          refine iex (fun _ => ⟨_, rfl, i1, fun z => by cases z⟩) fun he => ?_
          obtain ⟨p, hp, k1, _⟩ := draw_tot (d := dk) (n := 5) i1 (by omega)
          exact bex hp ⟨_, rfl, k1, fun _ => ⟨c1, fun z => by rw [z] at he; cases he⟩⟩
        obtain ⟨p, hp, k1, k2⟩ := in2
        exact bex hp ⟨_, rfl, k1, k2⟩
      obtain ⟨p, hp, k1, k2⟩ := inner
      exact bex hp ⟨_, rfl, k1, fun _ => ne, k2⟩
    · have e : inside = [] := by
        cases inside with
        | nil => rfl
        | cons a l => cases hi
      subst e
      refine ⟨_, rfl, i1, (fun z => by cases z), fun _ => ⟨?_, ?_⟩⟩
      · unfold l_way_L1c at hc
        simp at hc
        omega
      · intro z
        have e2 : ((rng 0 rooms).filter fun x => !decide (x ∈ ([] : List Int))) = rng 0 rooms := by simp
        rw [e2] at z
        have := congrArg List.length z
        rw [rng_length] at this
        simp at this
        omega
  obtain ⟨p, hp, k1, k2, k3⟩ := cnd
  refine bex hp (iex (fun hb => ?_) fun hb => ?_)
  · have ne := k2 hb
    have hl : ∃ c, inside.getLast? = some c := by
      rw [List.getLast?_eq_some_getLast ne]
      exact ⟨_, rfl⟩
    obtain ⟨c, hc2⟩ := hl
    have lp : 1 ≤ inside.length := by
      cases inside with
      | nil => exact absurd rfl ne
      | cons a l => simp
    refine bex hc2 (bex (gdd (bigl (by omega))) ⟨_, rfl, ⟨k1, i2, ?_, ?_, ?_, fun r hr => i6 r (List.dropLast_subset _ hr)⟩, ?_⟩)
    · exact forS_snoc i3 (held_out hc2)
    · show (steps ++ [_]).length + 2 * count.toNat + inside.dropLast.length ≤ 26
      rw [List.length_append, List.length_dropLast]
      simp
      omega
    · intro x hx
      rcases List.mem_append.mp hx with z | z
      · exact i5 x z
      · rw [List.mem_singleton] at z
        subst z
        exact ⟨.inr rfl, i6 c (List.mem_of_getLast? hc2)⟩
    · show 2 * count.toNat + inside.dropLast.length < 2 * count.toNat + inside.length
      rw [List.length_dropLast]
      omega
  · obtain ⟨c1, fne⟩ := k3 hb
    have l1 : 1 ≤ ((rng 0 rooms).filter fun x => !decide (x ∈ inside)).length := by
      cases q : ((rng 0 rooms).filter fun x => !decide (x ∈ inside)) with
      | nil => exact absurd q fne
      | cons a l => simp
    obtain ⟨r, hr, d1, d2⟩ := pick_tot (d := p.2) (xs := ((rng 0 rooms).filter fun x => !decide (x ∈ inside))) k1 l1 (by omega)
    have rr := mem_rng (List.mem_filter.mp d2).1
    have hat : atI (inside ++ [r.1]) (-1) = some r.1 := by
      unfold atI ixN
      rw [if_neg (by omega), if_pos (by simp; omega)]
      show (inside ++ [r.1])[((-1 : Int) + ((inside ++ [r.1]).length : Int)).toNat]? = some r.1
      have e : ((-1 : Int) + ((inside ++ [r.1]).length : Int)).toNat = inside.length := by simp; omega
      rw [e]
      simp
    refine bex hr (bex (gdd (bigl (by omega))) (bex hat (bex (gdd (bigl (by omega))) ⟨_, rfl, ⟨d1, ?_, ?_, ?_, ?_, ?_⟩, ?_⟩)))
    · show 0 ≤ count - 1
      omega
    · exact forS_snoc i3 (held_in (by omega))
    · show (steps ++ [_]).length + 2 * (count - 1).toNat + (inside ++ [r.1]).length ≤ 26
      rw [List.length_append, List.length_append]
      simp
      omega
    · intro x hx
      rcases List.mem_append.mp hx with z | z
      · exact i5 x z
      · rw [List.mem_singleton] at z
        subst z
        exact ⟨.inl rfl, by show 0 ≤ r.1; omega, by show r.1 < 8; omega⟩
    · intro x hx
      rcases List.mem_append.mp hx with z | z
      · exact i6 x z
      · rw [List.mem_singleton] at z
        subst z
        omega
    · show 2 * (count - 1).toNat + (inside ++ [r.1]).length < 2 * count.toNat + inside.length
      rw [List.length_append]
      simp
      omega
theorem way_tot {dk : Deck} {rooms most : Int} (h : dk.ok) (h1 : 1 ≤ rooms) (h2 : rooms ≤ 6) (h3 : most ≤ 24) (h4 : 2 ≤ most) : ∃ p, l_way_m dk rooms most = some p ∧ p.2.ok ∧ Good p.1 := by
  unfold l_way_m
  obtain ⟨p, hp, k1, k2, k3⟩ := draw_tot (d := dk) (n := most / 2) h (by omega)
  refine bex hp ?_
  have i0 : winv (p.2, 1 + p.1, [], []) := by
    refine ⟨k1, by show 0 ≤ 1 + p.1; omega, rfl, ?_, fun x hx => (nomatch hx), fun x hx => (nomatch hx)⟩
    show 0 + 2 * (1 + p.1).toNat + 0 ≤ 26
    have := k3 (by omega)
    omega
  have m0 : wmu (p.2, 1 + p.1, [], []) < 100000 := by
    show 2 * (1 + p.1).toNat + 0 < 100000
    have := k3 (by omega)
    omega
  obtain ⟨s, hs, ⟨j1, j2, j3, j4, j5, j6⟩, _⟩ := whS_ex winv wmu (fun s i hc => way_step h1 h2 s i hc) i0 m0
  exact bex hs ⟨_, rfl, j1, ⟨by show s.2.2.1.length ≤ 40; omega, j5, ⟨_, j3⟩⟩⟩
def Flat (w : List (Str × Int)) : Prop := (∀ base : List Int, base.length ≤ 100 → forS held_L1 base w = some base) ∧ ∀ s ∈ w, okS s
theorem flat_add {w : List (Str × Int)} {r : Int} (h : Flat w) (h0 : 0 ≤ r) (h1 : r < 8) : Flat (w ++ [(("in" : Str), r), (("out" : Str), r)]) := by
  refine ⟨fun base hb => ?_, fun s hs => ?_⟩
  · rw [forS_app, h.1 base hb]
    show (held_L1 base _).bind _ = _
    rw [held_in (by omega)]
    show (held_L1 (base ++ [r]) _).bind _ = _
    rw [held_out snoc_last]
    show some (base ++ [r]).dropLast = _
    rw [List.dropLast_concat]
  · rcases List.mem_append.mp hs with z | z
    · exact h.2 s z
    · rcases List.mem_cons.mp z with z | z
      · subst z; exact ⟨.inl rfl, h0, h1⟩
      · rw [List.mem_singleton] at z
        subst z; exact ⟨.inr rfl, h0, h1⟩
theorem flat_wrap {w : List (Str × Int)} {r : Int} (h : Flat w) (h0 : 0 ≤ r) (h1 : r < 8) : forS held_L1 [] (([(("in" : Str), r)] ++ w) ++ [(("out" : Str), r)]) = some [] ∧ ∀ s ∈ ([(("in" : Str), r)] ++ w) ++ [(("out" : Str), r)], okS s := by
  refine ⟨?_, fun s hs => ?_⟩
  · refine forS_snoc (s1 := [r]) ?_ (held_out (v := r) rfl)
    rw [forS_app]
    show ((held_L1 [] _).bind _).bind _ = _
    rw [held_in (by simp)]
    exact h.1 [r] (by simp)
  · rcases List.mem_append.mp hs with z | z
    · rcases List.mem_append.mp z with z | z
      · rw [List.mem_singleton] at z
        subst z; exact ⟨.inl rfl, h0, h1⟩
      · exact h.2 s z
    · rw [List.mem_singleton] at z
      subst z; exact ⟨.inr rfl, h0, h1⟩
theorem long_tot {dk : Deck} {rooms : Int} (h : dk.ok) (h1 : 1 ≤ rooms) (h2 : rooms ≤ 6) : ∃ p, l_long_way_m dk rooms 12 = some p ∧ p.2.ok ∧ Good p.1 := by
  unfold l_long_way_m
  have l12 : (rng 0 12).length = 12 := by rw [rng_length] <;> rfl
  refine bex (gdd (by omega)) (bex (gdd (by omega)) (bex (gdd (big (by omega))) ?_))
  obtain ⟨q, hq, q1, q2, q3⟩ := lcM_ex (f := fun (st : Deck) (x : Int) => (draw_m st rooms).bind fun p60 => some ((p60.2), some (p60.1))) (fun d => d.ok) (fun y => 0 ≤ y ∧ y < rooms) (xs := rng 0 12) (s := dk) (fun x s _ hs => by
    obtain ⟨p, hp, k1, k2, k3⟩ := draw_tot (d := s) (n := rooms) hs (by omega)
    exact bex hp ⟨_, rfl, k1, _, rfl, k2, k3 h1⟩) h
  refine bex hq ?_
  obtain ⟨a, ha, a1, a2, a3⟩ := draw_tot (d := q.1) (n := rooms + 2) q1 (by omega)
  have a3 := a3 (by omega)
  refine bex ha ?_
  have inn : ∃ w : List Int, (if ((decide ((a.1) < rooms)) && (decide (1 < rooms))) = true then ((gd (decide ((((cutL q.2 (some 1) none))).length ≤ sizeLine))).bind fun p66 => (lcM (fun (st : Unit) (x : Int) => (if (!(decide (x = (a.1)))) = true then (some x) else ((gd (decide (0 < rooms))).bind fun p69 => some ((x + 1) % rooms))).bind fun p70 => some ((), some p70)) () ((cutL q.2 (some 1) none))).bind fun p71 => some p71.2) else (some q.2)) = some w ∧ (w.length ≤ 12 ∧ ∀ y ∈ w, 0 ≤ y ∧ y < rooms) := by
    refine iex (fun _ => ?_) fun _ => ⟨_, rfl, by omega, q3⟩
    have lc : (cutL q.2 (some 1) none).length ≤ 12 := by
      unfold cutL
      refine Nat.le_trans (List.length_take_le _ _) ?_
      have := HT.sIx_le q.2.length q.2.length (Nat.le_refl _) none
      omega
    have mc : ∀ y ∈ cutL q.2 (some 1) none, y ∈ q.2 := fun y hy => List.mem_of_mem_drop (List.mem_of_mem_take hy)
    refine bex (gdd (big (by omega))) ?_
    obtain ⟨w, hw, _, w2, w3⟩ := lcM_ex (f := fun (st : Unit) (x : Int) => (if (!(decide (x = (a.1)))) = true then (some x) else ((gd (decide (0 < rooms))).bind fun p69 => some ((x + 1) % rooms))).bind fun p70 => some ((), some p70)) (fun _ => True) (fun y => 0 ≤ y ∧ y < rooms) (xs := cutL q.2 (some 1) none) (s := ()) (fun x s hx _ => by
      have hx2 := q3 x (mc x hx)
      have z : ∃ y, (if (!(decide (x = (a.1)))) = true then (some x) else ((gd (decide (0 < rooms))).bind fun p69 => some ((x + 1) % rooms))) = some y ∧ (0 ≤ y ∧ y < rooms) := iex (fun _ => ⟨_, rfl, hx2⟩) fun _ => bex (gdd (by omega)) ⟨_, rfl, Int.emod_nonneg _ (by omega), Int.emod_lt_of_pos _ (by omega)⟩
      obtain ⟨y, hy, y2⟩ := z
      exact bex hy ⟨_, rfl, trivial, _, rfl, y2⟩) trivial
    exact bex hw ⟨_, rfl, by omega, w3⟩
  obtain ⟨w, hw, w1, w2⟩ := inn
  refine bex hw ?_
  obtain ⟨f, hf, f1, f2⟩ := forS_exN (f := l_long_way_L1) (fun j s => s.length = 2 * j ∧ Flat s) (xs := w) (k := 0) (s := []) (fun j x s hj hx hs => by
    obtain ⟨s1, s2⟩ := hs
    have := w2 x hx
    unfold l_long_way_L1
    exact bex (gdd (big (by simp; omega))) ⟨_, rfl, by simp; omega, flat_add s2 (by omega) (by omega)⟩) ⟨rfl, fun base hb => rfl, fun s hs => nomatch hs⟩
  refine bex hf ?_
  have fin : ∃ v : List (Str × Int), (if ((decide ((a.1) < rooms)) && (decide (1 < rooms))) = true then ((gd (decide (([(("in" : Str), (a.1))]).length + (f).length ≤ sizeLine))).bind fun p80 => (gd (decide ((([(("in" : Str), (a.1))] ++ f)).length + ([(("out" : Str), (a.1))]).length ≤ sizeLine))).bind fun p81 => some (([(("in" : Str), (a.1))] ++ f) ++ [(("out" : Str), (a.1))])) else (some f)) = some v ∧ Good v := by
    refine iex (fun _ => ?_) fun _ => ⟨_, rfl, by omega, f2.2, ⟨_, f2.1 [] (by simp)⟩⟩
    obtain ⟨g1, g2⟩ := flat_wrap (r := a.1) f2 a2 (by omega)
    exact bex (gdd (big (by simp; omega))) (bex (gdd (big (by simp; omega))) ⟨_, rfl, by simp; omega, g2, ⟨_, g1⟩⟩)
  obtain ⟨v, hv, gv⟩ := fin
  exact bex hv ⟨_, rfl, a1, gv⟩
/-! #### the law's rounds -/
theorem entries_tot {way : List (Str × Int)} (g : Good way) : entries_m way = some (((numL way).filter fun x => decide (x.2.1 = ("in" : Str))).map fun x => x.1) := by
  unfold entries_m
  rw [gdd (big (by rw [len_numL]; have := g.len; omega))]
  show (lcM _ () _).bind _ = _
  rw [lcM_filterU (g := fun (x : Int × (Str × Int)) => x.1)] <;> rfl
theorem round2 {way : List (Str × Int)} (g : Good way) {x : Int × (Str × Int)} (hx : x ∈ numL way) : law_L2 way () x = some (.nx ()) := by
  obtain ⟨i, hi, hw⟩ := mem_numL hx
  obtain ⟨r, hr⟩ := held_tot g i
  have hws : wish_m way x.1 = some (if (decide (((x.2).1) = ("in" : Str))) = true then (some ((x.2).2)) else none) := by
    unfold wish_m
    rw [hi, RL.atI_nat hw] <;> rfl
  unfold law_L2
  rw [l_held_eq, hws, hi, hr]
  simp only [Option.bind_some, gdd]
  rfl
theorem round1 {d : Deck} {x : Int} (h : d.ok) : ∃ d', law_L1 d x = some (.nx d') ∧ d'.ok := by
  suffices main : ∃ o, law_L1 d x = some o ∧ ∃ d', o = .nx d' ∧ d'.ok by
    obtain ⟨o, ho, d', e, k⟩ := main
    exact ⟨d', e ▸ ho, k⟩
  unfold law_L1
  obtain ⟨p, hp, k1, k2, k3⟩ := draw_tot (d := d) (n := 6) h (by omega)
  have k3 := k3 (by omega)
  have way : ∃ q : List (Str × Int) × Deck, (if (decide (x = 4)) = true then ((l_long_way_m (p.2) (1 + (p.1)) 12).bind fun p94 => some ((p94.1), (p94.2))) else ((pick_m (p.2) [2, 6, 12, 24]).bind fun p95 => (l_way_m p95.2 (1 + (p.1)) p95.1).bind fun p96 => some ((p96.1), (p96.2)))) = some q ∧ (q.2.ok ∧ Good q.1) := by
    refine iex (fun _ => ?_) fun _ => ?_
    · obtain ⟨q, hq, q1, q2⟩ := long_tot (dk := p.2) (rooms := 1 + p.1) k1 (by omega) (by omega)
      exact bex hq ⟨_, rfl, q1, q2⟩
    · obtain ⟨m, hm, m1, m2⟩ := pick_tot (d := p.2) (xs := ([2, 6, 12, 24] : List Int)) k1 (by simp) (by simp)
      have m3 : 2 ≤ m.1 ∧ m.1 ≤ 24 := by
        simp only [List.mem_cons, List.not_mem_nil, or_false] at m2
        omega
      obtain ⟨q, hq, q1, q2⟩ := way_tot (dk := m.2) (rooms := 1 + p.1) (most := m.1) m1 (by omega) (by omega) m3.2 m3.1
      exact bex hm (bex hq ⟨_, rfl, q1, q2⟩)
  obtain ⟨q, hq, q1, q2⟩ := way
  obtain ⟨s, hs⟩ := good_fine q2
  have he := entries_tot q2
  have hl : forO (law_L2 q.1) () (numL q.1) = some (.nx ()) := by
    obtain ⟨u, hu, _⟩ := forO_ex (f := law_L2 q.1) (fun _ => True) (xs := numL q.1) (s := ()) (fun x s hx _ => ⟨(), round2 q2 hx, trivial⟩) trivial
    exact hu
  refine bex hp (bex hq (bex hs (bex (gdd (big (by rw [len_numL]; have := q2.len; omega))) (bex lcM_filterU ?_))))
  refine ⟨_, ?_, q.2, rfl, q1⟩
  rw [he]
  simp only [Option.bind_some, gdd, ite_self]
  show ((forO (law_L2 q.1) () (numL q.1)).bind _) = _
  rw [hl]
  show ((shDD _).bind _) = _
  rw [hs]
  show (if (!(decide (s = s))) = true then _ else _) = _
  rw [if_neg (by simp)] <;> rfl
theorem law_true : ∀ ns : List Int, ns.length ≤ 63 → law_m ns = some true := by
  intro ns h
  obtain ⟨d, hd, k⟩ := deck_tot h
  obtain ⟨s, hs, _⟩ := forO_ex (f := law_L1) (fun d => d.ok) (xs := rng 0 5) (s := d) (fun x s _ hs => round1 hs) k
  unfold law_m
  rw [hd]
  show ((forO law_L1 d (rng 0 5)).bind _) = _
  rw [hs] <;> rfl
end LW

set_option maxHeartbeats 0
namespace LW
open PySem PySem.Spec PyProof.Rows L2 RL
def d_held : He.DefD := ⟨("held", none), "held", "held", defArgs s_held, defBody s_held, defScope s_held, [], []⟩
def d_wish : He.DefD := ⟨("wish", none), "wish", "wish", defArgs s_wish, defBody s_wish, defScope s_wish, [], []⟩
def d_entries : He.DefD := ⟨("entries", none), "entries", "entries", defArgs s_entries, defBody s_entries, defScope s_entries, [], []⟩
def d_l_deck : He.DefD := ⟨("_law_deck", none), "_law_deck", "_law_deck", defArgs s_l_deck, defBody s_l_deck, defScope s_l_deck, [], []⟩
def d_l_draw : He.DefD := ⟨("_law_draw", none), "_law_draw", "_law_draw", defArgs s_l_draw, defBody s_l_draw, defScope s_l_draw, [], []⟩
def d_l_pick : He.DefD := ⟨("_law_pick", none), "_law_pick", "_law_pick", defArgs s_l_pick, defBody s_l_pick, defScope s_l_pick, [], []⟩
def d_l_same : He.DefD := ⟨("_law_same", none), "_law_same", "_law_same", defArgs s_l_same, defBody s_l_same, defScope s_l_same, [], []⟩
def d_l_way : He.DefD := ⟨("_law_way", none), "_law_way", "_law_way", defArgs s_l_way, defBody s_l_way, defScope s_l_way, [], []⟩
def d_l_long_way : He.DefD := ⟨("_law_long_way", none), "_law_long_way", "_law_long_way", defArgs s_l_long_way, defBody s_l_long_way, defScope s_l_long_way, [], []⟩
def d_l_held : He.DefD := ⟨("_law_held", none), "_law_held", "_law_held", defArgs s_l_held, defBody s_l_held, defScope s_l_held, [], []⟩
def d_law : He.DefD := ⟨("law", none), "law", "law", defArgs s_law, defBody s_law, defScope s_law, [], []⟩
def fn : List He.DefD := [d_held, d_wish, d_entries, d_l_deck, d_l_draw, d_l_pick, d_l_same, d_l_way, d_l_long_way, d_l_held, d_law]
def fa : List He.Fa := [.glo "held", .glo "wish", .glo "entries", .glo "_law_deck", .glo "_law_draw", .glo "_law_pick", .glo "_law_same", .glo "_law_way", .glo "_law_long_way", .glo "_law_held", .glo "law", .free "abs", .free "bool", .free "enumerate", .free "int", .free "isinstance", .free "len", .free "range", .free "repr", .free "str", .free "tuple"]
abbrev R : PySem.W.OpenRow := PySem.W.OpenLaw.row PySem.Challenge.rw_roomways_k02_whole_rooms_held_and_wished
abbrev hk : PySem.W.Hook := He.hookD 4 fa fn
def ob (s : PySem.W.SharedT) : He.AlD := He.obsDG 4 fa fn (HandSHeadRun.getT s)
theorem ob_eq (s : PySem.W.SharedT) : ob s = hk.obs s.abs := He.obsDG_eq (HandSHeadRun.getT_eq s)
theorem run (w : World) : HandSHeadRun.RunEq R (PySem.W.view R.prog [12]) hk ob 1500 ["held", "wish", "entries", "_law_deck", "_law_draw", "_law_pick", "_law_same", "_law_way", "_law_long_way", "_law_held"] w := by
  intro os
  kernel_rfl
theorem facts {P : Program} {w : World} {K : PySem.W.Frag} {h : Heap} {mg : Str → Option Value} {f : Addr} (X : K.In h) (G : h.Ns mainGlobals mg) (hfa : mg ("law" : Str) = some (.ref f)) (c : He.SaysD fa fn K) :
    ∃ fd : FuncData, (∀ (s : Shared) (v : Value), BindsTo s fd ⟨[v], []⟩ [("script", v)]) ∧ ∀ base : Heap, K.In base → base.Ns mainGlobals mg → FnG P w K mg base 6 f fd ["script"] (spR K 1 [] (lawRel 63 law_m)) := by
  obtain ⟨fd_held, F_held⟩ := c.def_ 0 (d := d_held) rfl
  obtain ⟨fd_wish, F_wish⟩ := c.def_ 1 (d := d_wish) rfl
  obtain ⟨fd_entries, F_entries⟩ := c.def_ 2 (d := d_entries) rfl
  obtain ⟨fd_l_deck, F_l_deck⟩ := c.def_ 3 (d := d_l_deck) rfl
  obtain ⟨fd_l_draw, F_l_draw⟩ := c.def_ 4 (d := d_l_draw) rfl
  obtain ⟨fd_l_pick, F_l_pick⟩ := c.def_ 5 (d := d_l_pick) rfl
  obtain ⟨fd_l_same, F_l_same⟩ := c.def_ 6 (d := d_l_same) rfl
  obtain ⟨fd_l_way, F_l_way⟩ := c.def_ 7 (d := d_l_way) rfl
  obtain ⟨fd_l_long_way, F_l_long_way⟩ := c.def_ 8 (d := d_l_long_way) rfl
  obtain ⟨fd_l_held, F_l_held⟩ := c.def_ 9 (d := d_l_held) rfl
  obtain ⟨fd_law, F_law⟩ := c.def_ 10 (d := d_law) rfl
  have g_held := He.glo_ok X G (c.fact 0 (f := .glo "held") rfl)
  have g_wish := He.glo_ok X G (c.fact 1 (f := .glo "wish") rfl)
  have g_entries := He.glo_ok X G (c.fact 2 (f := .glo "entries") rfl)
  have g_l_deck := He.glo_ok X G (c.fact 3 (f := .glo "_law_deck") rfl)
  have g_l_draw := He.glo_ok X G (c.fact 4 (f := .glo "_law_draw") rfl)
  have g_l_pick := He.glo_ok X G (c.fact 5 (f := .glo "_law_pick") rfl)
  have g_l_same := He.glo_ok X G (c.fact 6 (f := .glo "_law_same") rfl)
  have g_l_way := He.glo_ok X G (c.fact 7 (f := .glo "_law_way") rfl)
  have g_l_long_way := He.glo_ok X G (c.fact 8 (f := .glo "_law_long_way") rfl)
  have g_l_held := He.glo_ok X G (c.fact 9 (f := .glo "_law_held") rfl)
  have g_abs := He.free_ok X G (c.fact 11 (f := .free "abs") rfl)
  have g_bool := He.free_ok X G (c.fact 12 (f := .free "bool") rfl)
  have g_enumerate := He.free_ok X G (c.fact 13 (f := .free "enumerate") rfl)
  have g_int := He.free_ok X G (c.fact 14 (f := .free "int") rfl)
  have g_isinstance := He.free_ok X G (c.fact 15 (f := .free "isinstance") rfl)
  have g_len := He.free_ok X G (c.fact 16 (f := .free "len") rfl)
  have g_range := He.free_ok X G (c.fact 17 (f := .free "range") rfl)
  have g_repr := He.free_ok X G (c.fact 18 (f := .free "repr") rfl)
  have g_str := He.free_ok X G (c.fact 19 (f := .free "str") rfl)
  have g_tuple := He.free_ok X G (c.fact 20 (f := .free "tuple") rfl)
  have e := hfa.symm.trans (He.glo_ok X G (c.fact 10 (f := .glo "law") rfl))
  cases e
  have b := FunD.bindsA (ps := ["script"]) F_law fun _ _ _ _ _ _ us hl => match us, hl with | [_], _ => rfl
  refine ⟨fd_law, fun s v => b s [v] rfl, fun base _ _ => ?_⟩
  have G_held : FnG P w K mg base 1 _ fd_held ["way", "place"] (spR K 2 [] heldR) := held_ok F_held g_tuple
  have G_wish : FnG P w K mg base 1 _ fd_wish ["way", "place"] (spR K 2 [] wishR) := wish_ok F_wish
  have G_entries : FnG P w K mg base 1 _ fd_entries ["way"] (spR K 1 [] entriesR) := entries_ok F_entries g_enumerate g_tuple
  have G_l_deck : FnG P w K mg base 1 _ fd_l_deck ["script"] (spR K 1 [] l_deckR) := l_deck_ok F_l_deck g_abs g_int g_len
  have G_l_draw : FnG P w K mg base 1 _ fd_l_draw ["deck", "many"] (spR K 2 [0] drawR) := draw_ok F_l_draw g_int
  have G_l_pick : FnG P w K mg base 2 _ fd_l_pick ["deck", "items"] (spR K 2 [0] pickR) := pick_ok F_l_pick G_l_draw F_l_draw g_l_draw g_len
  have G_l_same : FnG P w K mg base 5 _ fd_l_same ["found", "due"] (spR K 2 [] (sameR 4)) := same_ok F_l_same g_l_same g_isinstance g_tuple g_len g_enumerate g_bool g_int g_str 4
  have G_l_way : FnG P w K mg base 3 _ fd_l_way ["deck", "rooms", "most"] (spR K 3 [0] l_wayR) := l_way_ok F_l_way G_l_draw F_l_draw g_l_draw G_l_pick F_l_pick g_l_pick g_range g_tuple
  have G_l_long_way : FnG P w K mg base 2 _ fd_l_long_way ["deck", "rooms", "pairs"] (spR K 3 [0] l_long_wayR) := l_long_way_ok F_l_long_way G_l_draw F_l_draw g_l_draw g_int g_range g_tuple
  have G_l_held : FnG P w K mg base 1 _ fd_l_held ["way", "place"] (spR K 2 [] l_heldR) := l_held_ok F_l_held g_tuple
  exact FnG.imp (law_ok F_law G_held F_held g_held G_wish F_wish g_wish G_entries F_entries g_entries G_l_deck F_l_deck g_l_deck G_l_draw F_l_draw g_l_draw G_l_pick F_l_pick g_l_pick G_l_same F_l_same g_l_same G_l_way F_l_way g_l_way G_l_long_way F_l_long_way g_l_long_way G_l_held F_l_held g_l_held g_enumerate g_range g_repr g_tuple) fun vs H Q E ⟨ms, F, r, ms', h1, h2, ⟨ns, _, e, hf, er, em⟩, h4⟩ => ⟨ms, F, r, ms', h1, h2, ⟨ns, true, hf, e, er, em⟩, h4⟩
end LW
open PySem PySem.W PySem.Calls PyProof.Rows
theorem PySem.Challenge.cw_roomways_k02_whole_rooms_held_and_wished_holds : PySem.Challenge.rw_roomways_k02_whole_rooms_held_and_wished.Holds := by
  w_on; o_law
  refine HandSHeadRun.head_any (r := OpenLaw.row PySem.Challenge.rw_roomways_k02_whole_rooms_held_and_wished) (q := view (OpenLaw.row PySem.Challenge.rw_roomways_k02_whole_rooms_held_and_wished).prog [12]) (H := LW.hk) (ob := LW.ob) (M := 1500) (loose := ["held", "wish", "entries", "_law_deck", "_law_draw", "_law_pick", "_law_same", "_law_way", "_law_long_way", "_law_held"]) (d := HandSHeadRun.topDef (OpenLaw.row PySem.Challenge.rw_roomways_k02_whole_rooms_held_and_wished).prog 12) (kwd := []) LW.ob_eq
    (by kernel_rfl) (fun s => by kernel_rfl) LW.run (by kernel_rfl) (by kernel_rfl) (by kernel_rfl) (by rfl) (by first | assumption | decide +kernel) (by decide +kernel) ⟨rfl, rfl, rfl, rfl, rfl, by decide +kernel⟩ ?hw ?hc
  case hw => w_witness2
  case hc =>
    refine RL.walkG (l := PySem.Challenge.rw_roomways_k02_whole_rooms_held_and_wished) (n := 63) (k := 6) (x := "script") rfl (by decide) (by kernel_rfl) ⟨rfl, by decide, by decide⟩ ?F
    intro w mg fa h Y G hmg0
    obtain ⟨K, KX, c⟩ := Y
    have hmg : mg ("law" : PySem.Str) = some (.ref fa) := by
      have e : (HandSHeadRun.topDef (OpenLaw.row PySem.Challenge.rw_roomways_k02_whole_rooms_held_and_wished).prog 12).name = ("law" : PySem.Str) := by kernel_rfl
      rw [← e]
      exact hmg0
    obtain ⟨fd, hb, hF⟩ := LW.facts (P := (PySem.Challenge.rw_roomways_k02_whole_rooms_held_and_wished).prog) (w := w) KX G hmg c
    exact ⟨K, fd, LW.law_m, KX, hb, LW.law_true, hF⟩

