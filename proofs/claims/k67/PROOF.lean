import PyProof.Rows.All
import Wide.All
import OpenK.AllK
import Wide.FinOn
import HandS.ForMost
import HandS.Evl
import KE.KDictKeyed
import KE.KeyNested
import HandS.TupAny
import HandS.TupMul
import HandS.Text
import HandS.Wide
import HandS.IsInst
import HandS.Style
import HandS.Defaults
import HandS.DeepEq
import HandS.Walk
import KE.GoesEnum
import HandS.Head0
import HandS.Head1
import HandS.Head2
import HandS.HeadEnd
import HandS.HeadHook1
import HandS.HeadHook2
import HandS.Zip
import HandS.TryOnly
import HandS.Conv
import HandS.Star
import HandS.Small
import HandS.Exc
import HandS.ExcOwn
import HandS.ExcIs
import HandS.ExcField
import PyProof.P3In
import HandS.SortInts
import KE.KExcSuper
import KE.KSuper
import HandS.ExcInit
import KE.GoesMore
import HandS.StrMore
import KE.GoesZip
import KE.KDictZip
import HandS.ExcValue
import PyProof.Rows.SeqMore
import KE.GoesNew
import KE.SortData
import PyProof.ListStr
import HandS.HeadHook3
import HandS.Strs
import KE.KDictPairs
import KE.KRevSl
import KE.DataFind
import HandS.Keys
import HandS.DictTup
import HandS.SetFor
import HandS.Lambda
import HandS.EndTab
import HandS.HeadHook4
import PySem.Challenge.RW_roomways_k67_whole_houses_with_a_gate
set_option Elab.async false
set_option linter.all false
set_option maxRecDepth 100000
set_option maxHeartbeats 2000000
/-! RL1: data, what bears them, the state of a def's body -/
namespace RL
open PySem L2

/-- data that never change -/
inductive D where
  | non | bl (b : Bool) | int (i : Int) | str (s : Str) | tup (l : List D) | lst (l : List D) | dct (l : List (Key × D)) | ty (n : String) | tpw (l : List D)
mutual
/-- a datum as a key of a dict -/
def D.nk : D → Option NestedKey
  | .non => some .none
  | .bl b => some (.num (if b = true then 1 else 0))
  | .int i => some (.num i)
  | .str s => some (.text s)
  | .tup l => (nks l).map .tup
  | _ => none
def nks : List D → Option (List NestedKey)
  | [] => some []
  | d :: l => (D.nk d).bind fun k => (nks l).bind fun ks => some (k :: ks)
end

abbrev FS := Addr → Prop
def e0 : FS := fun _ => False
def Dj (F G : FS) : Prop := ∀ a, F a → G a → False
theorem Dj.symm {F G : FS} (h : Dj F G) : Dj G F := fun a x y => h a y x
theorem Dj.e0l {F : FS} : Dj e0 F := fun _ x _ => x.elim
theorem Dj.e0r {F : FS} : Dj F e0 := fun _ _ x => x.elim

def Ext (H H' : Hp) : Prop := ∀ a o, H a = some o → H' a = some o
def TF (H H' : Hp) : Prop := (∀ a xs, H a = some (.tup xs) → H' a = some (.tup xs)) ∧ ∀ a o u, H a = some (.frz o u) → H' a = some (.frz o u)
theorem Ext.refl {H : Hp} : Ext H H := fun _ _ h => h
theorem Ext.trans {H H1 H2 : Hp} (a : Ext H H1) (b : Ext H1 H2) : Ext H H2 := fun x o h => b x o (a x o h)
theorem Ext.new {H : Hp} {p : Addr} {o : HO} (h : H p = none) : Ext H (upd H p o) := fun a u e => by
  rw [upd_ne (ne_of_none e h)]; exact e
theorem Ext.free {H H' : Hp} {p : Addr} (e : Ext H H') (h : H' p = none) : H p = none := by
  cases h1 : H p with
  | none => rfl
  | some o => rw [e p o h1] at h; cases h
theorem TF.refl {H : Hp} : TF H H := ⟨fun _ _ h => h, fun _ _ _ h => h⟩
theorem TF.trans {H H1 H2 : Hp} (a : TF H H1) (b : TF H1 H2) : TF H H2 := ⟨fun x o h => b.1 x o (a.1 x o h), fun x o u h => b.2 x o u (a.2 x o u h)⟩
/-- anything that may change, by what it says of a value: it stays while what it stands in stays -/
structure AbM where
  P : PySem.W.Frag → V → Hp → FS → Prop
  st : ∀ {K : PySem.W.Frag} {v : V} {H H' : Hp} {F : FS}, TF H H' → (∀ a, F a → H' a = H a) → P K v H F → P K v H' F
  mu : ∀ {K : PySem.W.Frag} {v : V} {H : Hp} {F : FS} {a : Addr}, P K v H F → F a → Mut (H a)
/-- what a slot may hold: data, lists of data, dicts, anything else -/
inductive M where
  | im (d : D) | li (l : List D) | ll (l : List M) | dk (l : List (Key × M)) | dt (w : World) (l : List (D × D)) | ab (A : AbM)
theorem Ext.tf {H H' : Hp} (e : Ext H H') : TF H H' := ⟨fun a xs h => e a _ h, fun a o u h => e a _ h⟩
theorem TF.write {H : Hp} {p : Addr} {o : HO} (m : Mut (H p)) : TF H (upd H p o) := by
  refine ⟨fun a xs h => ?_, fun a ob u h => ?_⟩
  · rw [upd_ne]; exact h
    intro e; subst e; rw [h] at m; exact m
  · rw [upd_ne]; exact h
    intro e; subst e; rw [h] at m; exact m
theorem TF.rd {H H' : Hp} {a : Addr} {xs : List V} (t : TF H H') (h : Rd H a (.tup xs)) : Rd H' a (.tup xs) := by
  rcases h with h | ⟨o, h⟩
  · exact .inl (t.1 _ _ h)
  · exact .inr ⟨o, t.2 _ _ _ h⟩
theorem TF.sqt {K : PySem.W.Frag} {H H' : Hp} {a : Addr} {xs : List V} (t : TF H H') (h : SqT K H a xs) : SqT K H' a xs := by
  rcases h with h | h
  · exact .inl (t.rd h)
  · exact .inr h

/-- a list that never changes: locked, or an object of the module -/
def FzL (K : PySem.W.Frag) (H : Hp) (a : Addr) (xs : List V) : Prop :=
  (∃ o, H a = some (.frz o (.lst xs))) ∨ ∃ (o : Obj) (its : Array Value) (n : Nat), K.lookup a = some o ∧ o.cls = .type "list" ∧ o.dict = none ∧ o.data = .seq its n ∧ its.size ≤ sizeLine ∧ Vals xs its.toList
theorem FzL.sq {K : PySem.W.Frag} {H : Hp} {a : Addr} {xs : List V} (h : FzL K H a xs) : SqL K H a xs := by
  rcases h with h | h
  · exact .inl (.inr h)
  · exact .inr h
theorem TF.fzl {K : PySem.W.Frag} {H H' : Hp} {a : Addr} {xs : List V} (t : TF H H') (h : FzL K H a xs) : FzL K H' a xs := by
  rcases h with ⟨o, h⟩ | h
  · exact .inl ⟨o, t.2 _ _ _ h⟩
  · exact .inr h
/-- a tuple, one without a dict of its own -/
structure SqN (K : PySem.W.Frag) (H : Hp) (a : Addr) (xs : List V) : Prop where
  t : SqT K H a xs
  n : (∃ o u, H a = some (.frz o u) ∧ o.dict = none) ∨ ∃ o, K.lookup a = some o ∧ o.dict = none
instance {K : PySem.W.Frag} {H : Hp} {a : Addr} {xs : List V} : Coe (SqN K H a xs) (SqT K H a xs) := ⟨SqN.t⟩
theorem SqN.new {K : PySem.W.Frag} {H : Hp} {a : Addr} {o : Obj} {xs : List V} (h : H a = some (.frz o (.tup xs))) (ho : o.dict = none) : SqN K H a xs := ⟨.inl (.inr ⟨o, h⟩), .inl ⟨o, _, h, ho⟩⟩
theorem TF.sqn {K : PySem.W.Frag} {H H' : Hp} {a : Addr} {xs : List V} (t : TF H H') (h : SqN K H a xs) : SqN K H' a xs := ⟨t.sqt h.t, by
  rcases h.n with ⟨o, u, h1, h2⟩ | h2
  · exact .inl ⟨o, u, t.2 _ _ _ h1, h2⟩
  · exact .inr h2⟩
/-- what the object of a dict by data holds -/
structure DtO (w : World) (o : Obj) (xs : List (NestedKey × Addr × Value)) : Prop where
  ex : o.ExactDict
  dat : ∃ es ep, o.data = .dict es ep ∧ es.toList = xs.map fun x => ⟨NestedKey.hash w x.1, .ref x.2.1, x.2.2⟩
  nd : (xs.map (·.1)).Nodup
  sz : xs.length ≤ sizeLine
section
variable (K : PySem.W.Frag)
mutual
/-- a value bears a datum -/
def rD : D → V → Hp → Prop
  | .non, v, _ => v = .non
  | .bl b, v, _ => v = .bl b
  | .int i, v, _ => v = .int i
  | .str s, v, _ => v = .str s
  | .ty n, v, _ => v = .ty n
  | .tup ds, v, H => ∃ a vs, v = .ref a ∧ SqN K H a vs ∧ rDs ds vs H
  | .lst ds, v, H => ∃ a vs, v = .ref a ∧ FzL K H a vs ∧ rDs ds vs H
  | .tpw ds, v, H => ∃ a vs, v = .ref a ∧ SqT K H a vs ∧ rDs ds vs H
  | .dct ks, v, H => ∃ a o kvs, v = .ref a ∧ H a = some (.frz o (.dK kvs)) ∧ rDk ks kvs H
def rDs : List D → List V → Hp → Prop
  | [], vs, _ => vs = []
  | d :: ds, vs, H => ∃ w ws, vs = w :: ws ∧ rD d w H ∧ rDs ds ws H
def rDk : List (Key × D) → List (Key × V) → Hp → Prop
  | [], vs, _ => vs = []
  | (k, d) :: ds, vs, H => ∃ w ws, vs = (k, w) :: ws ∧ rD d w H ∧ rDk ds ws H
end
def rDx : List (D × D) → List (NestedKey × Addr × Value) → Hp → Prop
  | [], xs, _ => xs = []
  | (k, d) :: l, xs, H => ∃ x b u v ys, xs = (x, b, u) :: ys ∧ k.nk = some x ∧ (∃ ds, k = .tup ds) ∧ rD K k (.ref b) H ∧ rD K d v H ∧ RelV v u ∧ rDx l ys H
mutual
/-- a value bears what may change, the changeable objects of which stand at F -/
def rM : M → V → Hp → FS → Prop
  | .im d, v, H, F => rD K d v H ∧ ∀ a, ¬ F a
  | .li ds, v, H, F => ∃ a vs, v = .ref a ∧ H a = some (.lst vs) ∧ rDs K ds vs H ∧ ∀ b, F b ↔ b = a
  | .ll ms, v, H, F => ∃ a vs F', v = .ref a ∧ H a = some (.lst vs) ∧ rMs ms vs H F' ∧ ¬ F' a ∧ ∀ b, F b ↔ (b = a ∨ F' b)
  | .dk ks, v, H, F => ∃ a kvs F', v = .ref a ∧ H a = some (.dK kvs) ∧ rMk ks kvs H F' ∧ ¬ F' a ∧ ∀ b, F b ↔ (b = a ∨ F' b)
  | .dt w l, v, H, F => ∃ a o xs, v = .ref a ∧ (a == sysModules) = false ∧ H a = some (.ext fun h => h.get? a = some o) ∧ DtO w o xs ∧ rDx K l xs H ∧ ∀ b, F b ↔ b = a
  | .ab A, v, H, F => A.P K v H F
def rMs : List M → List V → Hp → FS → Prop
  | [], vs, _, F => vs = [] ∧ ∀ a, ¬ F a
  | m :: ms, vs, H, F => ∃ w ws F1 F2, vs = w :: ws ∧ rM m w H F1 ∧ rMs ms ws H F2 ∧ Dj F1 F2 ∧ ∀ a, F a ↔ (F1 a ∨ F2 a)
def rMk : List (Key × M) → List (Key × V) → Hp → FS → Prop
  | [], vs, _, F => vs = [] ∧ ∀ a, ¬ F a
  | (k, m) :: ms, vs, H, F => ∃ w ws F1 F2, vs = (k, w) :: ws ∧ rM m w H F1 ∧ rMk ms ws H F2 ∧ Dj F1 F2 ∧ ∀ a, F a ↔ (F1 a ∨ F2 a)
end
end

variable {K : PySem.W.Frag} {H H' : Hp}
mutual
theorem rD.tf (t : TF H H') : ∀ {d : D} {v : V}, rD K d v H → rD K d v H'
  | .non, v, h => by unfold rD at h ⊢; exact h
  | .bl b, v, h => by unfold rD at h ⊢; exact h
  | .int i, v, h => by unfold rD at h ⊢; exact h
  | .str s, v, h => by unfold rD at h ⊢; exact h
  | .ty n, v, h => by unfold rD at h ⊢; exact h
  | .tup ds, v, h => by
    unfold rD at h ⊢
    obtain ⟨a, vs, e, s, r⟩ := h
    exact ⟨a, vs, e, t.sqn s, rDs.tf t r⟩
  | .lst ds, v, h => by
    unfold rD at h ⊢
    obtain ⟨a, vs, e, s, r⟩ := h
    exact ⟨a, vs, e, t.fzl s, rDs.tf t r⟩
  | .tpw ds, v, h => by
    unfold rD at h ⊢
    obtain ⟨a, vs, e, s, r⟩ := h
    exact ⟨a, vs, e, t.sqt s, rDs.tf t r⟩
  | .dct ks, v, h => by
    unfold rD at h ⊢
    obtain ⟨a, o, vs, e, s, r⟩ := h
    exact ⟨a, o, vs, e, t.2 _ _ _ s, rDk.tf t r⟩
theorem rDs.tf (t : TF H H') : ∀ {d : List D} {v : List V}, rDs K d v H → rDs K d v H'
  | [], v, h => by unfold rDs at h ⊢; exact h
  | d :: ds, v, h => by
    unfold rDs at h ⊢
    obtain ⟨w, ws, e, r, s⟩ := h
    exact ⟨w, ws, e, rD.tf t r, rDs.tf t s⟩
theorem rDk.tf (t : TF H H') : ∀ {d : List (Key × D)} {v : List (Key × V)}, rDk K d v H → rDk K d v H'
  | [], v, h => by unfold rDk at h ⊢; exact h
  | (k, d) :: ds, v, h => by
    unfold rDk at h ⊢
    obtain ⟨w, ws, e, r, s⟩ := h
    exact ⟨w, ws, e, rD.tf t r, rDk.tf t s⟩
end
theorem rDx.tf (t : TF H H') : ∀ {l : List (D × D)} {xs : List (NestedKey × Addr × Value)}, rDx K l xs H → rDx K l xs H'
  | [], xs, h => by unfold rDx at h ⊢; exact h
  | (k, d) :: l, xs, h => by
    unfold rDx at h ⊢
    obtain ⟨x, b, u, v, ys, e, h1, h2, h3, h4, h5, h6⟩ := h
    exact ⟨x, b, u, v, ys, e, h1, h2, rD.tf t h3, rD.tf t h4, h5, rDx.tf t h6⟩
mutual
theorem rM.st (t : TF H H') : ∀ {m : M} {v : V} {F : FS}, (∀ a, F a → H' a = H a) → rM K m v H F → rM K m v H' F
  | .im d, v, F, k, h => by unfold rM at h ⊢; exact ⟨h.1.tf t, h.2⟩
  | .li ds, v, F, k, h => by
    unfold rM at h ⊢
    obtain ⟨a, vs, e, s, r, f⟩ := h
    exact ⟨a, vs, e, (k a ((f a).2 rfl)).trans s, r.tf t, f⟩
  | .ll ms, v, F, k, h => by
    unfold rM at h ⊢
    obtain ⟨a, vs, F', e, s, r, n, f⟩ := h
    exact ⟨a, vs, F', e, (k a ((f a).2 (.inl rfl))).trans s, rMs.st t (fun b hb => k b ((f b).2 (.inr hb))) r, n, f⟩
  | .dk ms, v, F, k, h => by
    unfold rM at h ⊢
    obtain ⟨a, vs, F', e, s, r, n, f⟩ := h
    exact ⟨a, vs, F', e, (k a ((f a).2 (.inl rfl))).trans s, rMk.st t (fun b hb => k b ((f b).2 (.inr hb))) r, n, f⟩
  | .dt w l, v, F, k, h => by
    unfold rM at h ⊢
    obtain ⟨a, o, xs, e, ns, s, q, r, f⟩ := h
    exact ⟨a, o, xs, e, ns, (k a ((f a).2 rfl)).trans s, q, rDx.tf t r, f⟩
  | .ab A, v, F, k, h => by unfold rM at h ⊢; exact A.st t k h
theorem rMs.st (t : TF H H') : ∀ {m : List M} {v : List V} {F : FS}, (∀ a, F a → H' a = H a) → rMs K m v H F → rMs K m v H' F
  | [], v, F, k, h => by unfold rMs at h ⊢; exact h
  | m :: ms, v, F, k, h => by
    unfold rMs at h ⊢
    obtain ⟨w, ws, F1, F2, e, r, s, d, f⟩ := h
    exact ⟨w, ws, F1, F2, e, rM.st t (fun a ha => k a ((f a).2 (.inl ha))) r, rMs.st t (fun a ha => k a ((f a).2 (.inr ha))) s, d, f⟩
theorem rMk.st (t : TF H H') : ∀ {m : List (Key × M)} {v : List (Key × V)} {F : FS}, (∀ a, F a → H' a = H a) → rMk K m v H F → rMk K m v H' F
  | [], v, F, k, h => by unfold rMk at h ⊢; exact h
  | (_, m) :: ms, v, F, k, h => by
    unfold rMk at h ⊢
    obtain ⟨w, ws, F1, F2, e, r, s, d, f⟩ := h
    exact ⟨w, ws, F1, F2, e, rM.st t (fun a ha => k a ((f a).2 (.inl ha))) r, rMk.st t (fun a ha => k a ((f a).2 (.inr ha))) s, d, f⟩
end
mutual
theorem rM.mut : ∀ {m : M} {v : V} {F : FS} {a : Addr}, rM K m v H F → F a → Mut (H a)
  | .im d, v, F, a, h, f => by unfold rM at h; exact absurd f (h.2 a)
  | .li ds, v, F, a, h, f => by
    unfold rM at h
    obtain ⟨b, vs, e, s, r, g⟩ := h
    cases (g a).1 f
    rw [s]; trivial
  | .ll ms, v, F, a, h, f => by
    unfold rM at h
    obtain ⟨b, vs, F', e, s, r, n, g⟩ := h
    rcases (g a).1 f with q | q
    · subst q; rw [s]; trivial
    · exact rMs.mut r q
  | .dk ms, v, F, a, h, f => by
    unfold rM at h
    obtain ⟨b, vs, F', e, s, r, n, g⟩ := h
    rcases (g a).1 f with q | q
    · subst q; rw [s]; trivial
    · exact rMk.mut r q
  | .dt w l, v, F, a, h, f => by
    unfold rM at h
    obtain ⟨b, o, xs, e, ns, s, q, r, g⟩ := h
    cases (g a).1 f
    rw [s]; trivial
  | .ab A, v, F, a, h, f => by unfold rM at h; exact A.mu h f
theorem rMs.mut : ∀ {m : List M} {v : List V} {F : FS} {a : Addr}, rMs K m v H F → F a → Mut (H a)
  | [], v, F, a, h, f => by unfold rMs at h; exact absurd f (h.2 a)
  | m :: ms, v, F, a, h, f => by
    unfold rMs at h
    obtain ⟨w, ws, F1, F2, e, r, s, d, g⟩ := h
    rcases (g a).1 f with q | q
    · exact rM.mut r q
    · exact rMs.mut s q
theorem rMk.mut : ∀ {m : List (Key × M)} {v : List (Key × V)} {F : FS} {a : Addr}, rMk K m v H F → F a → Mut (H a)
  | [], v, F, a, h, f => by unfold rMk at h; exact absurd f (h.2 a)
  | (_, m) :: ms, v, F, a, h, f => by
    unfold rMk at h
    obtain ⟨w, ws, F1, F2, e, r, s, d, g⟩ := h
    rcases (g a).1 f with q | q
    · exact rM.mut r q
    · exact rMk.mut s q
end
end RL

set_option maxHeartbeats 2000000
/-! RT: tuples are made without a dict of their own -/
namespace RL
open PySem L2 PySem.Spec PyProof.Rows
def NewT (H : Hp) (xs : List V) (Q : VK) : Prop := ∀ p o, H p = none → o.dict = none → Q (.ref p) (upd H p (.frz o (.tup xs)))
section
variable {X : Cx} {pins : List (Addr × Obj)} {σ : L2.St} {H : Hp} {s : Shared} {Q : VK} {xs : List V} {its : List Value}
/-- a new tuple is laid -/
theorem laidN (I : Inv X pins σ H s) {tk : Tok} {n : Nat} (hz : xs.length ≤ sizeLine) (r : Vals xs its) (q : NewT H xs Q) : L2.EP X pins σ Q (.ref s.heap.objs.size) { s with toks := tk, heap := s.heap.push { cls := .type "tuple", data := .seq its.toArray n } } := by
  have hp := I.hok.fresh (Nat.le_refl s.heap.objs.size)
  refine ⟨.ref s.heap.objs.size, _, I.laid (o := .frz { cls := .type "tuple", data := .seq its.toArray n } (.tup xs)) (fun b u q => Heap.get?_push_of_some _ q) (Nat.le_refl _) ?_, rfl, q _ _ hp rfl⟩
  exact ⟨Heap.get?_push_size _ rfl, hz, its, r, ⟨_, Heap.get?_push_size _ rfl, rfl, n, rfl⟩⟩
end
section
variable {X : Cx} {es : List Expr} {t : TA} {pos : Pos}
/-- (a, b, ..) -/
def tTupN (t : TA) : TE := fun σ H Q => t σ H fun xs H1 => xs.length ≤ sizeLine ∧ NewT H1 xs Q
theorem pe_tupN {x1} (h : PA X es t) : PE X (.Tuple es x1 pos) (tTupN t) := by
  refine ⟨fun pins s σ H Q I hq => ?_⟩
  refine wpAny_Tuple_spliced (thn (h.run pos pins s σ H _ I hq) fun us s1 ⟨xs, H1, I1, r, z, q⟩ => ⟨by rw [← r.length]; exact z, ?_⟩)
  exact laidN I1 z r q
/-- t + u -/
def rCatN (K : PySem.W.Frag) : R2 := fun x y H Q => ∃ a b xs ys, x = .ref a ∧ y = .ref b ∧ SqT K H a xs ∧ SqT K H b ys ∧ xs.length + ys.length ≤ sizeLine ∧ (xs = [] → Q (.ref b) H) ∧ (xs ≠ [] → ys = [] → Q (.ref a) H) ∧ (xs ≠ [] → ys ≠ [] → NewT H (xs ++ ys) Q)
theorem op_catN : OpR X (binaryOp .Add) (rCatN X.K) := by
  intro pins s σ H x y v u Q I rx ry h
  obtain ⟨a, b, xs, ys, rfl, rfl, ha, hb, hz, q0, q1, q2⟩ := h
  cases rx
  cases ry
  obtain ⟨its, r1, p1, _⟩ := I.tuple ha
  obtain ⟨its2, r2, p2, _⟩ := I.tuple hb
  by_cases hx : xs = []
  · subst hx
    cases r1
    exact cat_tup0 p1 p2 ⟨.ref b, H, I, rfl, q0 rfl⟩
  · refine HT.cat_tup p1 p2 (fun z => hx (r1.nil_iff.mp z)) (fun z => ⟨.ref a, H, I, rfl, q1 hx (r2.nil_iff.mp z)⟩) (fun z => ?_) (by rw [← r1.length, ← r2.length]; exact hz)
    exact laidN I (by rw [List.length_append]; exact hz) (r1.append r2) (q2 hx fun w => z (r2.nil_iff.mpr w))
/-- tuple(xs), tuple(t) -/
theorem call_tuple_ofN : CallR X (.type "tuple") (fun xs H Q => ∃ p ys, xs = [.ref p] ∧ ((SqL X.K H p ys ∧ NewT H ys Q) ∨ (SqT X.K H p ys ∧ Q (.ref p) H))) := by
  intro pins s σ H xs us Q I r h
  obtain ⟨p, ys, rfl, h⟩ := h
  obtain ⟨u, rfl, rx⟩ := vals1 r
  cases rx
  rcases h with ⟨hq, q⟩ | ⟨hq, q⟩
  · obtain ⟨its, r', pl, hz⟩ := I.list hq
    have hlen := r'.length
    refine call_tuple_list pl.isList (fun h' kp => ?_) (by simp only [List.size_toArray] <;> omega)
    have I1 : Inv X pins σ H { s with heap := h' } := I.kept (t' := s.toks) kp
    exact laidN I1 hz r' q
  · obtain ⟨its, r', pl, hz⟩ := I.tuple hq
    exact call_tuple_same pl ⟨.ref p, H, I, rfl, q⟩
end
end RL

set_option maxHeartbeats 2000000
/-! RL2: the state of a def's body -/
namespace RL
open PySem L2

/-- what lies on the stack of values: its own; taken out of a slot; another name of a slot -/
inductive T where
  | own (m : M) | tk (j : Nat) (m : M) | al (j : Nat) | hid (m : M) (v : V) | hal (j : Nat) (v : V) | hip (v : V) (P : Hp → Prop) (s : ∀ H H', TF H H' → P H → P H')
abbrev T.im (d : D) : T := .own (.im d)
abbrev Ctx := List (Option M)
structure Cn where
  K : PySem.W.Frag
  H0 : Hp
  io : FS
  pin : List (Nat × V)
  mio : ∀ a, io a → Mut (H0 a)
def rT (K : PySem.W.Frag) (σ : St) : T → V → Hp → FS → Prop
  | .own m, v, H, G => rM K m v H G
  | .tk j m, v, H, G => σ[j]? = some (some v) ∧ rM K m v H G
  | .al j, v, H, G => σ[j]? = some (some v) ∧ ∀ a, ¬ G a
  | .hid m v0, v, H, G => v = v0 ∧ rM K m v H G
  | .hal j v0, v, H, G => v = v0 ∧ σ[j]? = some (some v) ∧ ∀ a, ¬ G a
  | .hip v0 P _, v, H, G => v = v0 ∧ P H ∧ ∀ a, ¬ G a
/-- it is not about the slot i -/
def T.free (i : Nat) : T → Prop
  | .own _ => True
  | .tk j _ => j ≠ i
  | .al j => j ≠ i
  | .hid _ _ => True
  | .hal j _ => j ≠ i
  | .hip _ _ _ => True
def Free (i : Nat) : List T → Prop
  | [] => True
  | t :: ts => t.free i ∧ Free i ts
theorem Free.of {i : Nat} : ∀ {Ts : List T} {k : Nat} {t : T}, Free i Ts → Ts[k]? = some t → t.free i
  | [], k, t, h, e => by simp at e
  | u :: ts, 0, t, h, e => by simp at e; subst e; exact h.1
  | u :: ts, k + 1, t, h, e => Free.of (Ts := ts) h.2 (by simpa using e)
theorem rT.free {K : PySem.W.Frag} {H : Hp} {σ : St} {t : T} {v w : V} {F : FS} {i : Nat} (f : t.free i) (h : rT K σ t v H F) : rT K (σ.set i (some w)) t v H F := by
  cases t with
  | own m => exact h
  | tk j m => exact ⟨by rw [List.getElem?_set_ne (Ne.symm f)]; exact h.1, h.2⟩
  | al j => exact ⟨by rw [List.getElem?_set_ne (Ne.symm f)]; exact h.1, h.2⟩
  | hid m v0 => exact h
  | hal j v0 => exact ⟨h.1, by rw [List.getElem?_set_ne (Ne.symm f)]; exact h.2.1, h.2.2⟩
  | hip v0 P s => exact h
def Frm (H0 : Hp) (io : FS) (H : Hp) : Prop := ∀ a o, H0 a = some o → ¬ io a → H a = some o
theorem Frm.tf {H0 H : Hp} {io : FS} (f : Frm H0 io H) (m : ∀ a, io a → Mut (H0 a)) : TF H0 H := by
  refine ⟨fun a xs h => f a _ h fun i => ?_, fun a o u h => f a _ h fun i => ?_⟩
  · have := m a i; rw [h] at this; exact this
  · have := m a i; rw [h] at this; exact this
theorem rT.st {K : PySem.W.Frag} {H H' : Hp} {σ : St} {t : T} {v : V} {F : FS} (tf : TF H H') (k : ∀ a, F a → H' a = H a) (h : rT K σ t v H F) : rT K σ t v H' F := by
  cases t with
  | own m => exact rM.st tf k h
  | tk j m => exact ⟨h.1, rM.st tf k h.2⟩
  | al j => exact h
  | hid m v0 => exact ⟨h.1, rM.st tf k h.2⟩
  | hal j v0 => exact h
  | hip v0 P s => exact ⟨h.1, s _ _ tf h.2.1, h.2.2⟩

structure AsW (C : Cn) (Γ : Ctx) (Ts : List T) (σ : St) (vs : List V) (H : Hp) (fp : Sum Nat Nat → FS) : Prop where
  lg : Γ.length = σ.length
  ln : Ts.length = vs.length
  sl : ∀ i m, Γ[i]? = some (some m) → ∃ v, σ[i]? = some (some v) ∧ rM C.K m v H (fp (.inl i))
  tp : ∀ k t, Ts[k]? = some t → ∃ v, vs[k]? = some v ∧ rT C.K σ t v H (fp (.inr k))
  dj : ∀ x y, x ≠ y → Dj (fp x) (fp y)
  sn : ∀ x a, fp x a → C.io a ∨ C.H0 a = none
  mu : ∀ x a, fp x a → Mut (H a)
  fr : Frm C.H0 C.io H
  pn : ∀ p ∈ C.pin, σ[p.1]? = some (some p.2)
def As (C : Cn) (Γ : Ctx) (Ts : List T) (σ : St) (vs : List V) (H : Hp) : Prop := ∃ fp, AsW C Γ Ts σ vs H fp

section
variable {C : Cn} {Γ Γ' : Ctx} {Ts : List T} {σ : St} {vs : List V} {H H' : Hp} {i j : Nat} {m m' : M} {t : T} {v w : V} {F F' : FS} {fp : Sum Nat Nat → FS}

theorem mut_some {o : Option HO} (m : Mut o) : ∃ u, o = some u := by
  cases o with
  | none => exact m.elim
  | some u => exact ⟨u, rfl⟩
theorem Ext.same (e : Ext H H') {a : Addr} (m : Mut (H a)) : H' a = H a := by
  obtain ⟨u, h⟩ := mut_some m
  rw [h]; exact e a u h
theorem As.ext (e : Ext H H') (h : As C Γ Ts σ vs H) : As C Γ Ts σ vs H' := by
  obtain ⟨fp, W⟩ := h
  refine ⟨fp, W.lg, W.ln, fun i m q => ?_, fun k t q => ?_, W.dj, W.sn, fun x a q => ?_, fun a o q n => e a o (W.fr a o q n), W.pn⟩
  · obtain ⟨v, q1, q2⟩ := W.sl i m q
    exact ⟨v, q1, rM.st e.tf (fun a ha => e.same (W.mu _ a ha)) q2⟩
  · obtain ⟨v, q1, q2⟩ := W.tp k t q
    exact ⟨v, q1, rT.st e.tf (fun a ha => e.same (W.mu _ a ha)) q2⟩
  · rw [e.same (W.mu x a q)]; exact W.mu x a q
theorem As.tf (h : As C Γ Ts σ vs H) : TF C.H0 H := by
  obtain ⟨fp, W⟩ := h
  exact W.fr.tf C.mio
/-- a new footprint at one place; the heap changed at that place alone, or grew -/
theorem AsW.at (W : AsW C Γ Ts σ vs H fp) (x : Sum Nat Nat) (t : TF H H') (k : ∀ a, ¬ fp x a → H a ≠ none → H' a = H a) (n : ∀ a, F' a → fp x a ∨ H a = none) (mf : ∀ a, F' a → Mut (H' a)) :
    (∀ y, y ≠ x → ∀ a, fp y a → H' a = H a) ∧ (∀ y z, y ≠ z → Dj (if y = x then F' else fp y) (if z = x then F' else fp z)) ∧ (∀ y a, (if y = x then F' else fp y) a → C.io a ∨ C.H0 a = none) ∧ (∀ y a, (if y = x then F' else fp y) a → Mut (H' a)) ∧ Frm C.H0 C.io H' := by
  have k1 : ∀ y, y ≠ x → ∀ a, fp y a → H' a = H a := fun y hy a ha => by
    obtain ⟨u, hu⟩ := mut_some (W.mu y a ha)
    exact k a (fun q => W.dj y x hy a ha q) (by rw [hu]; simp)
  have nf : ∀ y, y ≠ x → ∀ a, F' a → ¬ fp y a := fun y hy a ha q => by
    rcases n a ha with r | r
    · exact W.dj x y (fun e => hy e.symm) a r q
    · obtain ⟨u, hu⟩ := mut_some (W.mu y a q)
      rw [hu] at r; cases r
  refine ⟨k1, fun y z hyz a ha hb => ?_, fun y a ha => ?_, fun y a ha => ?_, fun a o q ni => ?_⟩
  · by_cases hy : y = x
    · rw [if_pos hy] at ha
      by_cases hz : z = x
      · exact hyz (hy.trans hz.symm)
      · rw [if_neg hz] at hb
        exact nf z hz a ha hb
    · rw [if_neg hy] at ha
      by_cases hz : z = x
      · rw [if_pos hz] at hb
        exact nf y hy a hb ha
      · rw [if_neg hz] at hb
        exact W.dj y z hyz a ha hb
  · by_cases hy : y = x
    · rw [if_pos hy] at ha
      rcases n a ha with r | r
      · exact W.sn x a r
      · by_cases hi : C.io a
        · exact .inl hi
        · refine .inr ?_
          cases q : C.H0 a with
          | none => rfl
          | some o => rw [W.fr a o q hi] at r; cases r
    · rw [if_neg hy] at ha
      exact W.sn y a ha
  · by_cases hy : y = x
    · rw [if_pos hy] at ha
      exact mf a ha
    · rw [if_neg hy] at ha
      rw [k1 y hy a ha]
      exact W.mu y a ha
  · have r := W.fr a o q ni
    rw [k a (fun f => ?_) (by rw [r]; simp)]
    · exact r
    · rcases W.sn x a f with z | z
      · exact ni z
      · rw [q] at z; cases z
/-- what the slot i holds is changed -/
theorem As.slot (h : As C Γ Ts σ vs H) (hi : Γ[i]? = some (some m)) : ∃ v F, σ[i]? = some (some v) ∧ rM C.K m v H F ∧
    ∀ m' H' F', TF H H' → (∀ a, ¬ F a → H a ≠ none → H' a = H a) → rM C.K m' v H' F' → (∀ a, F' a → F a ∨ H a = none) → As C (Γ.set i (some m')) Ts σ vs H' := by
  obtain ⟨fp, W⟩ := h
  obtain ⟨v, hv, r⟩ := W.sl i m hi
  refine ⟨v, fp (.inl i), hv, r, fun m' H' F' t k r' n => ?_⟩
  obtain ⟨k1, d, s, u, f⟩ := W.at (.inl i) t k n fun a ha => rM.mut r' ha
  have hl : i < Γ.length := (List.getElem?_eq_some_iff.mp hi).1
  refine ⟨fun y => if y = .inl i then F' else fp y, by rw [List.length_set]; exact W.lg, W.ln, fun j mj q => ?_, fun l tl q => ?_, d, s, u, f, W.pn⟩
  · by_cases e : j = i
    · subst e
      rw [List.getElem?_set_self hl] at q
      cases q
      exact ⟨v, hv, by rw [if_pos rfl]; exact r'⟩
    · rw [List.getElem?_set_ne (Ne.symm e)] at q
      obtain ⟨v', q1, q2⟩ := W.sl j mj q
      have ne : (Sum.inl j : Sum Nat Nat) ≠ .inl i := fun z => e (Sum.inl.inj z)
      exact ⟨v', q1, by rw [if_neg ne]; exact rM.st t (k1 _ ne) q2⟩
  · obtain ⟨v', q1, q2⟩ := W.tp l tl q
    have ne : (Sum.inr l : Sum Nat Nat) ≠ .inl i := fun z => nomatch z
    exact ⟨v', q1, by rw [if_neg ne]; exact rT.st t (k1 _ ne) q2⟩
theorem app_get {α : Type} {l : List α} {x y : α} {k : Nat} (h : (l ++ [x])[k]? = some y) : (l[k]? = some y ∧ k < l.length) ∨ (k = l.length ∧ y = x) := by
  by_cases e : k < l.length
  · rw [List.getElem?_append_left e] at h
    exact .inl ⟨h, e⟩
  · have e2 : l.length ≤ k := Nat.le_of_not_lt e
    rw [List.getElem?_append_right e2] at h
    have e3 : k - l.length = 0 := by
      cases z : k - l.length with
      | zero => rfl
      | succ n => rw [z] at h; simp at h
    rw [e3] at h
    simp at h
    exact .inr ⟨by omega, h.symm⟩
theorem app_left {α : Type} {l : List α} {x : α} {k : Nat} (h : k < l.length) : (l ++ [x])[k]? = l[k]? := List.getElem?_append_left h
theorem app_last {α : Type} {l : List α} {x : α} : (l ++ [x])[l.length]? = some x := by simp
/-- what lies on top is changed -/
theorem As.top (h : As C Γ (Ts ++ [t]) σ (vs ++ [v]) H) : ∃ F, rT C.K σ t v H F ∧
    ∀ t' v' H' F', TF H H' → (∀ a, ¬ F a → H a ≠ none → H' a = H a) → rT C.K σ t' v' H' F' → (∀ a, F' a → F a ∨ H a = none) → (∀ a, F' a → Mut (H' a)) → As C Γ (Ts ++ [t']) σ (vs ++ [v']) H' := by
  obtain ⟨fp, W⟩ := h
  have ln : Ts.length = vs.length := by have := W.ln; simp at this; exact this
  obtain ⟨v1, hv, r⟩ := W.tp Ts.length t app_last
  have ev : v1 = v := by
    rw [ln, app_last] at hv; exact (Option.some.inj hv).symm
  subst ev
  refine ⟨fp (.inr Ts.length), r, fun t' v' H' F' tf k r' n mf => ?_⟩
  obtain ⟨k1, d, s, u, f⟩ := W.at (.inr Ts.length) tf k n mf
  refine ⟨fun y => if y = .inr Ts.length then F' else fp y, W.lg, by simp [ln], fun j mj q => ?_, fun l tl q => ?_, d, s, u, f, W.pn⟩
  · obtain ⟨v', q1, q2⟩ := W.sl j mj q
    have ne : (Sum.inl j : Sum Nat Nat) ≠ .inr Ts.length := fun z => nomatch z
    exact ⟨v', q1, by rw [if_neg ne]; exact rM.st tf (k1 _ ne) q2⟩
  · rcases app_get q with ⟨q, hl⟩ | ⟨e, e2⟩
    · obtain ⟨v', q1, q2⟩ := W.tp l tl (by rw [app_left hl]; exact q)
      have ne : (Sum.inr l : Sum Nat Nat) ≠ .inr Ts.length := fun z => by have := Sum.inr.inj z; omega
      have hl2 : l < vs.length := by omega
      refine ⟨v', by rw [app_left hl2] at q1 ⊢; exact q1, by rw [if_neg ne]; exact rT.st tf (k1 _ ne) q2⟩
    · subst e e2
      exact ⟨v', by rw [ln]; exact app_last, by rw [if_pos rfl]; exact r'⟩
/-- pushed: made anew, or data -/
theorem As.push (h : As C Γ Ts σ vs H) (e : Ext H H') (r : rT C.K σ t v H' F) (n : ∀ a, F a → H a = none) (mf : ∀ a, F a → Mut (H' a)) : As C Γ (Ts ++ [t]) σ (vs ++ [v]) H' := by
  obtain ⟨fp, W⟩ := h
  have ln := W.ln
  have nf : ∀ x a, F a → ¬ fp x a := fun x a ha q => by
    obtain ⟨u, hu⟩ := mut_some (W.mu x a q)
    rw [n a ha] at hu; cases hu
  let fq : Sum Nat Nat → FS := fun y => if y = .inr Ts.length then F else fp y
  have q1 : ∀ y, y ≠ .inr Ts.length → fq y = fp y := fun y hy => if_neg hy
  have q2 : fq (.inr Ts.length) = F := if_pos rfl
  refine ⟨fq, W.lg, by simp [ln], fun i m q => ?_, fun k t q => ?_, fun x y hxy a ha hb => ?_, fun x a ha => ?_, fun x a ha => ?_, fun a o q ni => e a o (W.fr a o q ni), W.pn⟩
  · obtain ⟨v, r1, r2⟩ := W.sl i m q
    exact ⟨v, r1, by rw [q1 (.inl i) (fun z => nomatch z)]; exact rM.st e.tf (fun a ha => e.same (W.mu _ a ha)) r2⟩
  · rcases app_get q with ⟨q, hl⟩ | ⟨z1, z2⟩
    · obtain ⟨v, r1, r2⟩ := W.tp k t q
      refine ⟨v, by rw [app_left (by omega)]; exact r1, ?_⟩
      rw [q1 (.inr k) (fun z => by have := Sum.inr.inj z; omega)]
      exact rT.st e.tf (fun a ha => e.same (W.mu _ a ha)) r2
    · subst z1 z2
      exact ⟨v, by rw [ln]; exact app_last, by rw [q2]; exact r⟩
  · by_cases hx : x = .inr Ts.length
    · subst hx
      rw [q2] at ha
      rw [q1 _ (Ne.symm hxy)] at hb
      exact nf _ a ha hb
    · rw [q1 _ hx] at ha
      by_cases hy : y = .inr Ts.length
      · subst hy
        rw [q2] at hb
        exact nf _ a hb ha
      · rw [q1 _ hy] at hb
        exact W.dj x y hxy a ha hb
  · by_cases hx : x = .inr Ts.length
    · subst hx
      rw [q2] at ha
      by_cases hi : C.io a
      · exact .inl hi
      · refine .inr ?_
        cases q : C.H0 a with
        | none => rfl
        | some o => have := W.fr a o q hi; rw [n a ha] at this; cases this
    · rw [q1 _ hx] at ha
      exact W.sn x a ha
  · by_cases hx : x = .inr Ts.length
    · subst hx
      rw [q2] at ha
      exact mf a ha
    · rw [q1 _ hx] at ha
      rw [e.same (W.mu x a ha)]
      exact W.mu x a ha
theorem As.pop (h : As C Γ (Ts ++ [t]) σ (vs ++ [v]) H) : As C Γ Ts σ vs H := by
  obtain ⟨fp, W⟩ := h
  have ln : Ts.length = vs.length := by have := W.ln; simp at this; exact this
  refine ⟨fp, W.lg, ln, W.sl, fun k t' q => ?_, W.dj, W.sn, W.mu, W.fr, W.pn⟩
  have hl : k < Ts.length := (List.getElem?_eq_some_iff.mp q).1
  obtain ⟨v', r1, r2⟩ := W.tp k t' (by rw [app_left hl]; exact q)
  exact ⟨v', by rw [app_left (by omega)] at r1; exact r1, r2⟩
/-- less is told of the slots -/
theorem As.weak (h : As C Γ Ts σ vs H) (hl : Γ'.length = Γ.length) (w : ∀ (i : Nat) (m : M), Γ'[i]? = some (some m) → Γ[i]? = some (some m)) : As C Γ' Ts σ vs H := by
  obtain ⟨fp, W⟩ := h
  exact ⟨fp, hl.trans W.lg, W.ln, fun i m q => W.sl i m (w i m q), W.tp, W.dj, W.sn, W.mu, W.fr, W.pn⟩
/-- a name that is stored -/
theorem As.set (h : As C Γ (Ts ++ [.own m]) σ (vs ++ [v]) H) (hp : ∀ p ∈ C.pin, p.1 ≠ i) (hf : Free i Ts) : As C (Γ.set i (some m)) Ts (σ.set i (some v)) vs H := by
  obtain ⟨fp, W⟩ := h
  have ln : Ts.length = vs.length := by have := W.ln; simp at this; exact this
  obtain ⟨v1, hv, r⟩ := W.tp Ts.length _ app_last
  have ev : v1 = v := by
    rw [ln, app_last] at hv; exact (Option.some.inj hv).symm
  subst ev
  let fq : Sum Nat Nat → FS := fun y => if y = .inl i then fp (.inr Ts.length) else if y = .inr Ts.length then e0 else fp y
  have q1 : fq (.inl i) = fp (.inr Ts.length) := if_pos rfl
  have q0 : fq (.inr Ts.length) = e0 := (if_neg (fun z => nomatch z)).trans (if_pos rfl)
  have q2 : ∀ y, y ≠ .inl i → y ≠ .inr Ts.length → fq y = fp y := fun y h1 h2 => (if_neg h1).trans (if_neg h2)
  have le : ∀ y a, fq y a → (y = .inl i ∧ fp (.inr Ts.length) a) ∨ (y ≠ .inl i ∧ y ≠ .inr Ts.length ∧ fp y a) := fun y a ha => by
    by_cases h1 : y = .inl i
    · subst h1; rw [q1] at ha; exact .inl ⟨rfl, ha⟩
    · by_cases h2 : y = .inr Ts.length
      · subst h2; rw [q0] at ha; exact ha.elim
      · rw [q2 y h1 h2] at ha; exact .inr ⟨h1, h2, ha⟩
  refine ⟨fq, by simp [W.lg], ln, fun j mj q => ?_, fun k t q => ?_, fun x y hxy a ha hb => ?_, fun x a ha => ?_, fun x a ha => ?_, W.fr, fun p hp' => ?_⟩
  · by_cases e : j = i
    · subst e
      have hl : j < Γ.length := by
        have := (List.getElem?_eq_some_iff.mp q).1
        simpa using this
      rw [List.getElem?_set_self hl] at q
      cases q
      refine ⟨v1, ?_, by rw [q1]; exact r⟩
      rw [List.getElem?_set_self (by rw [← W.lg]; exact hl)]
    · rw [List.getElem?_set_ne (Ne.symm e)] at q
      obtain ⟨v', r1, r2⟩ := W.sl j mj q
      refine ⟨v', by rw [List.getElem?_set_ne (Ne.symm e)]; exact r1, ?_⟩
      rw [q2 (.inl j) (fun z => e (Sum.inl.inj z)) (fun z => nomatch z)]
      exact r2
  · have hl : k < Ts.length := (List.getElem?_eq_some_iff.mp q).1
    obtain ⟨v', r1, r2⟩ := W.tp k t (by rw [app_left hl]; exact q)
    refine ⟨v', by rw [app_left (by omega)] at r1; exact r1, ?_⟩
    rw [q2 (.inr k) (fun z => nomatch z) (fun z => by have := Sum.inr.inj z; omega)]
    exact rT.free (hf.of q) r2
  · rcases le x a ha with ⟨h1, h2⟩ | ⟨h1, h2, h3⟩
    · rcases le y a hb with ⟨g1, g2⟩ | ⟨g1, g2, g3⟩
      · exact hxy (h1.trans g1.symm)
      · exact W.dj _ _ (Ne.symm g2) a h2 g3
    · rcases le y a hb with ⟨g1, g2⟩ | ⟨g1, g2, g3⟩
      · exact W.dj _ _ h2 a h3 g2
      · exact W.dj _ _ hxy a h3 g3
  · rcases le x a ha with ⟨h1, h2⟩ | ⟨h1, h2, h3⟩
    · exact W.sn _ a h2
    · exact W.sn _ a h3
  · rcases le x a ha with ⟨h1, h2⟩ | ⟨h1, h2, h3⟩
    · exact W.mu _ a h2
    · exact W.mu _ a h3
  · rw [List.getElem?_set_ne (Ne.symm (hp p hp'))]
    exact W.pn p hp'
/-- a slot's content goes onto the stack -/
theorem As.take (h : As C Γ Ts σ vs H) (hj : Γ[j]? = some (some m)) : ∃ v, σ[j]? = some (some v) ∧ As C (Γ.set j none) (Ts ++ [.tk j m]) σ (vs ++ [v]) H := by
  obtain ⟨fp, W⟩ := h
  obtain ⟨v, hv, r⟩ := W.sl j m hj
  have ln := W.ln
  refine ⟨v, hv, ?_⟩
  let fq : Sum Nat Nat → FS := fun y => if y = .inr Ts.length then fp (.inl j) else if y = .inl j then e0 else if y = .inr Ts.length then e0 else fp y
  have q1 : fq (.inr Ts.length) = fp (.inl j) := if_pos rfl
  have q2 : ∀ y, y ≠ .inl j → y ≠ .inr Ts.length → fq y = fp y := fun y h1 h2 => (if_neg h2).trans ((if_neg h1).trans (if_neg h2))
  have q0 : fq (.inl j) = e0 := (if_neg (fun z => nomatch z)).trans (if_pos rfl)
  have le : ∀ y a, fq y a → (y = .inr Ts.length ∧ fp (.inl j) a) ∨ (y ≠ .inl j ∧ y ≠ .inr Ts.length ∧ fp y a) := fun y a ha => by
    by_cases h1 : y = .inr Ts.length
    · subst h1; rw [q1] at ha; exact .inl ⟨rfl, ha⟩
    · by_cases h2 : y = .inl j
      · subst h2; rw [q0] at ha; exact ha.elim
      · rw [q2 y h2 h1] at ha; exact .inr ⟨h2, h1, ha⟩
  refine ⟨fq, by simp [W.lg], by simp [ln], fun i mi q => ?_, fun k t q => ?_, fun x y hxy a ha hb => ?_, fun x a ha => ?_, fun x a ha => ?_, W.fr, W.pn⟩
  · by_cases e : i = j
    · subst e
      have hl : i < Γ.length := (List.getElem?_eq_some_iff.mp hj).1
      rw [List.getElem?_set_self hl] at q
      cases q
    · rw [List.getElem?_set_ne (Ne.symm e)] at q
      obtain ⟨v', r1, r2⟩ := W.sl i mi q
      exact ⟨v', r1, by rw [q2 (.inl _) (fun z => e (Sum.inl.inj z)) (fun z => nomatch z)]; exact r2⟩
  · rcases app_get q with ⟨q, hl⟩ | ⟨z1, z2⟩
    · obtain ⟨v', r1, r2⟩ := W.tp k t q
      refine ⟨v', by rw [app_left (by omega)]; exact r1, ?_⟩
      rw [q2 (.inr k) (fun z => nomatch z) (fun z => by have := Sum.inr.inj z; omega)]
      exact r2
    · subst z1 z2
      exact ⟨v, by rw [ln]; exact app_last, by rw [q1]; exact ⟨hv, r⟩⟩
  · rcases le x a ha with ⟨h1, h2⟩ | ⟨h1, h2, h3⟩
    · rcases le y a hb with ⟨g1, g2⟩ | ⟨g1, g2, g3⟩
      · exact hxy (h1.trans g1.symm)
      · exact W.dj _ _ (Ne.symm g1) a h2 g3
    · rcases le y a hb with ⟨g1, g2⟩ | ⟨g1, g2, g3⟩
      · exact W.dj _ _ h1 a h3 g2
      · exact W.dj _ _ hxy a h3 g3
  · rcases le x a ha with ⟨h1, h2⟩ | ⟨h1, h2, h3⟩
    · exact W.sn _ a h2
    · exact W.sn _ a h3
  · rcases le x a ha with ⟨h1, h2⟩ | ⟨h1, h2, h3⟩
    · exact W.mu _ a h2
    · exact W.mu _ a h3
/-- and back -/
theorem As.put (h : As C Γ (Ts ++ [.tk j m]) σ (vs ++ [v]) H) : As C (Γ.set j (some m)) Ts σ vs H := by
  obtain ⟨fp, W⟩ := h
  have ln : Ts.length = vs.length := by have := W.ln; simp at this; exact this
  obtain ⟨v1, hv, hj, r⟩ := W.tp Ts.length _ app_last
  have ev : v1 = v := by
    rw [ln, app_last] at hv; exact (Option.some.inj hv).symm
  subst ev
  let fq : Sum Nat Nat → FS := fun y => if y = .inl j then fp (.inr Ts.length) else if y = .inr Ts.length then e0 else fp y
  have q1 : fq (.inl j) = fp (.inr Ts.length) := if_pos rfl
  have q2 : ∀ y, y ≠ .inl j → y ≠ .inr Ts.length → fq y = fp y := fun y h1 h2 => (if_neg h1).trans (if_neg h2)
  have q0 : fq (.inr Ts.length) = e0 := (if_neg (fun z => nomatch z)).trans (if_pos rfl)
  have le : ∀ y a, fq y a → (y = .inl j ∧ fp (.inr Ts.length) a) ∨ (y ≠ .inl j ∧ y ≠ .inr Ts.length ∧ fp y a) := fun y a ha => by
    by_cases h1 : y = .inl j
    · subst h1; rw [q1] at ha; exact .inl ⟨rfl, ha⟩
    · by_cases h2 : y = .inr Ts.length
      · subst h2; rw [q0] at ha; exact ha.elim
      · rw [q2 y h1 h2] at ha; exact .inr ⟨h1, h2, ha⟩
  refine ⟨fq, by simp [W.lg], ln, fun i mi q => ?_, fun k t q => ?_, fun x y hxy a ha hb => ?_, fun x a ha => ?_, fun x a ha => ?_, W.fr, W.pn⟩
  · by_cases e : i = j
    · subst e
      have hl : i < Γ.length := by
        have := (List.getElem?_eq_some_iff.mp q).1
        simpa using this
      rw [List.getElem?_set_self hl] at q
      cases q
      exact ⟨v1, hj, by rw [q1]; exact r⟩
    · rw [List.getElem?_set_ne (Ne.symm e)] at q
      obtain ⟨v', r1, r2⟩ := W.sl i mi q
      exact ⟨v', r1, by rw [q2 (.inl _) (fun z => e (Sum.inl.inj z)) (fun z => nomatch z)]; exact r2⟩
  · have hl : k < Ts.length := (List.getElem?_eq_some_iff.mp q).1
    obtain ⟨v', r1, r2⟩ := W.tp k t (by rw [app_left hl]; exact q)
    refine ⟨v', by rw [app_left (by omega)] at r1; exact r1, ?_⟩
    rw [q2 (.inr k) (fun z => nomatch z) (fun z => by have := Sum.inr.inj z; omega)]
    exact r2
  · rcases le x a ha with ⟨h1, h2⟩ | ⟨h1, h2, h3⟩
    · rcases le y a hb with ⟨g1, g2⟩ | ⟨g1, g2, g3⟩
      · exact hxy (h1.trans g1.symm)
      · exact W.dj _ _ (Ne.symm g2) a h2 g3
    · rcases le y a hb with ⟨g1, g2⟩ | ⟨g1, g2, g3⟩
      · exact W.dj _ _ h2 a h3 g2
      · exact W.dj _ _ hxy a h3 g3
  · rcases le x a ha with ⟨h1, h2⟩ | ⟨h1, h2, h3⟩
    · exact W.sn _ a h2
    · exact W.sn _ a h3
  · rcases le x a ha with ⟨h1, h2⟩ | ⟨h1, h2, h3⟩
    · exact W.mu _ a h2
    · exact W.mu _ a h3
/-- a value taken out of a slot is on its own from now on -/
theorem As.free (h : As C Γ (Ts ++ [.tk j m]) σ (vs ++ [v]) H) : As C Γ (Ts ++ [.own m]) σ (vs ++ [v]) H := by
  obtain ⟨F, r, q⟩ := h.top
  exact q (.own m) v H F TF.refl (fun _ _ _ => rfl) r.2 (fun a ha => .inl ha) fun a ha => rM.mut r.2 ha
/-- another name of a slot -/
theorem As.alias (h : As C Γ Ts σ vs H) (hj : Γ[j]? = some (some m)) : ∃ v, σ[j]? = some (some v) ∧ As C Γ (Ts ++ [.al j]) σ (vs ++ [v]) H := by
  obtain ⟨v, F, hv, r, _⟩ := h.slot hj
  exact ⟨v, hv, h.push Ext.refl (t := .al j) (F := e0) ⟨hv, fun a z => z⟩ (fun a z => z.elim) fun a z => z.elim⟩
/-- data in a slot -/
theorem As.slotIm {d : D} (h : As C Γ Ts σ vs H) (hi : Γ[i]? = some (some (.im d))) : ∃ v, σ[i]? = some (some v) ∧ rD C.K d v H := by
  obtain ⟨v, F, hv, r, _⟩ := h.slot hi
  unfold rM at r
  exact ⟨v, hv, r.1⟩
theorem As.pushIm {d : D} (h : As C Γ Ts σ vs H) (e : Ext H H') (r : rD C.K d v H') : As C Γ (Ts ++ [.im d]) σ (vs ++ [v]) H' :=
  h.push e (t := .im d) (F := e0) (by show rM _ _ _ _ _; unfold rM; exact ⟨r, fun a z => z⟩) (fun a z => z.elim) fun a z => z.elim
theorem As.topIm {d : D} (h : As C Γ (Ts ++ [.im d]) σ (vs ++ [v]) H) : rD C.K d v H := by
  obtain ⟨F, r, _⟩ := h.top
  have r' : rM C.K (.im d) v H F := r
  unfold rM at r'
  exact r'.1
/-- what lies on top may be told with its value -/
theorem As.hide (h : As C Γ (Ts ++ [.own m]) σ (vs ++ [v]) H) : As C Γ (Ts ++ [.hid m v]) σ (vs ++ [v]) H := by
  obtain ⟨F, r, q⟩ := h.top
  have r' : rM C.K m v H F := r
  exact q (.hid m v) v H F TF.refl (fun _ _ _ => rfl) ⟨rfl, r'⟩ (fun a ha => .inl ha) fun a ha => rM.mut r' ha
theorem As.setIm {d : D} (h : As C Γ Ts σ vs H) (r : rD C.K d v H) (hp : ∀ p ∈ C.pin, p.1 ≠ i) (hf : Free i Ts) : As C (Γ.set i (some (.im d))) Ts (σ.set i (some v)) vs H := (h.pushIm Ext.refl r).set hp hf
/-- other values in slots of which nothing is told -/
theorem As.sig {σ' : St} {J : List Nat} (h : As C Γ Ts σ vs H) (hl : σ'.length = σ.length) (e : ∀ i, i ∉ J → σ'[i]? = σ[i]?) (hΓ : ∀ i ∈ J, ∀ m, Γ[i]? ≠ some (some m)) (hT : ∀ i ∈ J, Free i Ts) (hp : ∀ p ∈ C.pin, p.1 ∉ J) : As C Γ Ts σ' vs H := by
  obtain ⟨fp, W⟩ := h
  refine ⟨fp, W.lg.trans hl.symm, W.ln, fun i m q => ?_, fun k t q => ?_, W.dj, W.sn, W.mu, W.fr, fun p hp' => ?_⟩
  · obtain ⟨v, r1, r2⟩ := W.sl i m q
    exact ⟨v, by rw [e i (fun z => hΓ i z m q)]; exact r1, r2⟩
  · obtain ⟨v, r1, r2⟩ := W.tp k t q
    refine ⟨v, r1, ?_⟩
    cases t with
    | own m => exact r2
    | hid m v0 => exact r2
    | hip v0 P s => exact r2
    | tk j m => exact ⟨by rw [e j (fun z => (hT j z).of q rfl)]; exact r2.1, r2.2⟩
    | al j => exact ⟨by rw [e j (fun z => (hT j z).of q rfl)]; exact r2.1, r2.2⟩
    | hal j v0 => exact ⟨r2.1, by rw [e j (fun z => (hT j z).of q rfl)]; exact r2.2.1, r2.2.2⟩
  · rw [e p.1 (hp p hp')]
    exact W.pn p hp'
/-- what lies under the top goes -/
theorem As.mid {t' : T} (h : As C Γ (Ts ++ [t] ++ [t']) σ (vs ++ [v] ++ [w]) H) : As C Γ (Ts ++ [t']) σ (vs ++ [w]) H := by
  obtain ⟨fp, W⟩ := h
  have ln : Ts.length = vs.length := by have := W.ln; simp at this; exact this
  let fq : Sum Nat Nat → FS := fun y => if y = .inr Ts.length then fp (.inr (Ts.length + 1)) else if y = .inr (Ts.length + 1) then e0 else fp y
  have q1 : fq (.inr Ts.length) = fp (.inr (Ts.length + 1)) := if_pos rfl
  have q0 : fq (.inr (Ts.length + 1)) = e0 := (if_neg (fun z => by have := Sum.inr.inj z; omega)).trans (if_pos rfl)
  have q2 : ∀ y, y ≠ .inr Ts.length → y ≠ .inr (Ts.length + 1) → fq y = fp y := fun y h1 h2 => (if_neg h1).trans (if_neg h2)
  have le : ∀ y a, fq y a → (y = .inr Ts.length ∧ fp (.inr (Ts.length + 1)) a) ∨ (y ≠ .inr Ts.length ∧ y ≠ .inr (Ts.length + 1) ∧ fp y a) := fun y a ha => by
    by_cases h1 : y = .inr Ts.length
    · subst h1; rw [q1] at ha; exact .inl ⟨rfl, ha⟩
    · by_cases h2 : y = .inr (Ts.length + 1)
      · subst h2; rw [q0] at ha; exact ha.elim
      · rw [q2 y h1 h2] at ha; exact .inr ⟨h1, h2, ha⟩
  refine ⟨fq, W.lg, by simp [ln], fun i m q => ?_, fun k t1 q => ?_, fun x y hxy a ha hb => ?_, fun x a ha => ?_, fun x a ha => ?_, W.fr, W.pn⟩
  · obtain ⟨v', r1, r2⟩ := W.sl i m q
    exact ⟨v', r1, by rw [q2 (.inl i) (fun z => nomatch z) (fun z => nomatch z)]; exact r2⟩
  · rcases app_get q with ⟨q, hl⟩ | ⟨z1, z2⟩
    · obtain ⟨v', r1, r2⟩ := W.tp k t1 (by rw [app_left (by simp; omega), app_left hl]; exact q)
      rw [app_left (by simp; omega), app_left (by omega)] at r1
      refine ⟨v', by rw [app_left (by omega)]; exact r1, ?_⟩
      rw [q2 (.inr k) (fun z => by have := Sum.inr.inj z; omega) (fun z => by have := Sum.inr.inj z; omega)]
      exact r2
    · subst z1 z2
      obtain ⟨v', r1, r2⟩ := W.tp (Ts.length + 1) t1 (by simp)
      have ev : v' = w := by
        have e2 : (vs ++ [v] ++ [w])[Ts.length + 1]? = some w := by rw [ln]; simp
        rw [e2] at r1; exact (Option.some.inj r1).symm
      subst ev
      exact ⟨v', by rw [ln]; exact app_last, by rw [q1]; exact r2⟩
  · rcases le x a ha with ⟨h1, h2⟩ | ⟨h1, h2, h3⟩
    · rcases le y a hb with ⟨g1, g2⟩ | ⟨g1, g2, g3⟩
      · exact hxy (h1.trans g1.symm)
      · exact W.dj _ _ (Ne.symm g2) a h2 g3
    · rcases le y a hb with ⟨g1, g2⟩ | ⟨g1, g2, g3⟩
      · exact W.dj _ _ h2 a h3 g2
      · exact W.dj _ _ hxy a h3 g3
  · rcases le x a ha with ⟨h1, h2⟩ | ⟨h1, h2, h3⟩
    · exact W.sn _ a h2
    · exact W.sn _ a h3
  · rcases le x a ha with ⟨h1, h2⟩ | ⟨h1, h2, h3⟩
    · exact W.mu _ a h2
    · exact W.mu _ a h3
theorem As.lnx (h : As C Γ (Ts ++ [t]) σ vs H) : ∃ us u, vs = us ++ [u] := by
  obtain ⟨fp, W⟩ := h
  have := W.ln
  rcases List.eq_nil_or_concat vs with e | ⟨us, u, e⟩
  · subst e; simp at this
  · exact ⟨us, u, by rw [e]; simp⟩
end
end RL

set_option maxHeartbeats 2000000
/-! RL3: several values at once (a call's arguments), readings of expressions, tests, statements -/
namespace RL
open PySem L2

/-- the datum on the stack (none for another name of a slot) -/
def T.mo : T → Option M
  | .own m => some m
  | .tk _ m => some m
  | .al _ => none
  | .hid _ _ => none
  | .hal _ _ => none
  | .hip _ _ _ => none
section
variable {C : Cn} {Γ Γ' : Ctx} {Ts Ts' : List T} {σ σ' : St} {vs vs' : List V} {H H' : Hp} {i j : Nat} {m m' : M} {t : T} {v w : V} {F F' : FS} {fp fq : Sum Nat Nat → FS}

/-- what is borne, several values at once, in the place of the last value of the stack -/
structure AsB (C : Cn) (Γ : Ctx) (Ts : List T) (σ : St) (vs : List V) (ms : List M) (us : List V) (H : Hp) (fp : Sum Nat Nat → FS) (G : FS) : Prop where
  w : AsW C Γ Ts σ vs H fp
  r : rMs C.K ms us H G
  d : ∀ x, Dj (fp x) G
  s : ∀ a, G a → C.io a ∨ C.H0 a = none
theorem rMs.im {K : PySem.W.Frag} : ∀ {ds : List D} {us : List V} {F : FS}, rDs K ds us H → (∀ a, ¬ F a) → rMs K (ds.map M.im) us H F
  | [], us, F, h, f => by unfold rDs at h; show rMs K [] us H F; unfold rMs; exact ⟨h, f⟩
  | d :: ds, us, F, h, f => by
    unfold rDs at h
    obtain ⟨w, ws, e, r, s⟩ := h
    show rMs K (M.im d :: ds.map M.im) us H F
    unfold rMs
    exact ⟨w, ws, e0, e0, e, by unfold rM; exact ⟨r, fun _ z => z⟩, rMs.im s (fun _ z => z), Dj.e0l, fun a => ⟨fun z => absurd z (f a), fun z => z.elim (fun z => z.elim) fun z => z.elim⟩⟩
theorem rMs.imD {K : PySem.W.Frag} : ∀ {ds : List D} {us : List V} {F : FS}, rMs K (ds.map M.im) us H F → rDs K ds us H
  | [], us, F, h => by have h : rMs K [] us H F := h; unfold rMs at h; unfold rDs; exact h.1
  | d :: ds, us, F, h => by
    have h : rMs K (M.im d :: ds.map M.im) us H F := h
    unfold rMs at h
    obtain ⟨w, ws, F1, F2, e, r, s, _⟩ := h
    unfold rM at r
    unfold rDs
    exact ⟨w, ws, e, r.1, rMs.imD s⟩
theorem AsB.nil (W : AsW C Γ Ts σ vs H fp) : AsB C Γ Ts σ vs [] [] H fp e0 := ⟨W, by unfold rMs; exact ⟨rfl, fun _ z => z⟩, fun _ => Dj.e0r, fun _ z => z.elim⟩
/-- the last value goes in at the head -/
theorem AsB.cons {ms : List M} {us : List V} {G : FS} (h : AsB C Γ (Ts ++ [t]) σ (vs ++ [v]) ms us H fp G) (r : rM C.K m v H (fp (.inr Ts.length))) :
    ∃ fq G', AsB C Γ Ts σ vs (m :: ms) (v :: us) H fq G' := by
  have W := h.w
  have ln : Ts.length = vs.length := by have := W.ln; simp at this; exact this
  let fq : Sum Nat Nat → FS := fun y => if y = .inr Ts.length then e0 else fp y
  have q0 : fq (.inr Ts.length) = e0 := if_pos rfl
  have q1 : ∀ y, y ≠ .inr Ts.length → fq y = fp y := fun y h => if_neg h
  have le : ∀ y a, fq y a → y ≠ .inr Ts.length ∧ fp y a := fun y a ha => by
    by_cases h1 : y = .inr Ts.length
    · subst h1; rw [q0] at ha; exact ha.elim
    · rw [q1 y h1] at ha; exact ⟨h1, ha⟩
  refine ⟨fq, fun a => fp (.inr Ts.length) a ∨ G a, ⟨W.lg, ln, fun i mi q => ?_, fun k t q => ?_, fun x y hxy a ha hb => W.dj x y hxy a (le x a ha).2 (le y a hb).2, fun x a ha => W.sn x a (le x a ha).2, fun x a ha => W.mu x a (le x a ha).2, W.fr, W.pn⟩, ?_, fun x a ha hb => ?_, fun a ha => ?_⟩
  · obtain ⟨v', r1, r2⟩ := W.sl i mi q
    exact ⟨v', r1, by rw [q1 (.inl i) (fun z => nomatch z)]; exact r2⟩
  · have hl : k < Ts.length := (List.getElem?_eq_some_iff.mp q).1
    obtain ⟨v', r1, r2⟩ := W.tp k t (by rw [app_left hl]; exact q)
    refine ⟨v', by rw [app_left (by omega)] at r1; exact r1, ?_⟩
    rw [q1 (.inr k) (fun z => by have := Sum.inr.inj z; omega)]
    exact r2
  · unfold rMs
    exact ⟨v, us, fp (.inr Ts.length), G, rfl, r, h.r, h.d _, fun a => Iff.rfl⟩
  · obtain ⟨h1, h2⟩ := le x a ha
    rcases hb with hb | hb
    · exact W.dj _ _ h1 a h2 hb
    · exact h.d x a h2 hb
  · rcases ha with ha | ha
    · exact W.sn _ a ha
    · exact h.s a ha
/-- the head goes onto the stack -/
theorem AsB.uncons {ms : List M} {us : List V} {u : V} {G : FS} (h : AsB C Γ Ts σ vs (m :: ms) (u :: us) H fp G) : ∃ fq G', AsB C Γ (Ts ++ [.own m]) σ (vs ++ [u]) ms us H fq G' := by
  have W := h.w
  have ln := W.ln
  have r := h.r
  unfold rMs at r
  obtain ⟨w, ws, F1, F2, e, r1, r2, dj, f⟩ := r
  cases e
  let fq : Sum Nat Nat → FS := fun y => if y = .inr Ts.length then F1 else fp y
  have q0 : fq (.inr Ts.length) = F1 := if_pos rfl
  have q1 : ∀ y, y ≠ .inr Ts.length → fq y = fp y := fun y h => if_neg h
  have le : ∀ y a, fq y a → (y = .inr Ts.length ∧ F1 a) ∨ (y ≠ .inr Ts.length ∧ fp y a) := fun y a ha => by
    by_cases h1 : y = .inr Ts.length
    · subst h1; rw [q0] at ha; exact .inl ⟨rfl, ha⟩
    · rw [q1 y h1] at ha; exact .inr ⟨h1, ha⟩
  refine ⟨fq, F2, ⟨W.lg, by simp [ln], fun i mi q => ?_, fun k t q => ?_, fun x y hxy a ha hb => ?_, fun x a ha => ?_, fun x a ha => ?_, W.fr, W.pn⟩, r2, fun x a ha hb => ?_, fun a ha => h.s a ((f a).2 (.inr ha))⟩
  · obtain ⟨v', z1, z2⟩ := W.sl i mi q
    exact ⟨v', z1, by rw [q1 (.inl i) (fun z => nomatch z)]; exact z2⟩
  · rcases app_get q with ⟨q, hl⟩ | ⟨z1, z2⟩
    · obtain ⟨v', s1, s2⟩ := W.tp k t q
      refine ⟨v', by rw [app_left (by omega)]; exact s1, ?_⟩
      rw [q1 (.inr k) (fun z => by have := Sum.inr.inj z; omega)]
      exact s2
    · subst z1 z2
      exact ⟨u, by rw [ln]; exact app_last, by rw [q0]; exact r1⟩
  · rcases le x a ha with ⟨h1, h2⟩ | ⟨h1, h2⟩
    · rcases le y a hb with ⟨g1, g2⟩ | ⟨g1, g2⟩
      · exact hxy (h1.trans g1.symm)
      · exact h.d y a g2 ((f a).2 (.inl h2))
    · rcases le y a hb with ⟨g1, g2⟩ | ⟨g1, g2⟩
      · exact h.d x a h2 ((f a).2 (.inl g2))
      · exact W.dj x y hxy a h2 g2
  · rcases le x a ha with ⟨h1, h2⟩ | ⟨h1, h2⟩
    · exact h.s a ((f a).2 (.inl h2))
    · exact W.sn x a h2
  · rcases le x a ha with ⟨h1, h2⟩ | ⟨h1, h2⟩
    · exact rM.mut r1 h2
    · exact W.mu x a h2
  · rcases le x a ha with ⟨h1, h2⟩ | ⟨h1, h2⟩
    · exact dj a h2 hb
    · exact h.d x a h2 ((f a).2 (.inr hb))
/-- what the several bear is changed -/
theorem AsB.chg {ms ms' : List M} {us us' : List V} {G G' : FS} (h : AsB C Γ Ts σ vs ms us H fp G) (f : Frm H G H') (r' : rMs C.K ms' us' H' G') (n : ∀ a, G' a → G a ∨ H a = none) : AsB C Γ Ts σ vs ms' us' H' fp G' := by
  have W := h.w
  have tf : TF H H' := f.tf fun a ha => rMs.mut h.r ha
  have k1 : ∀ x a, fp x a → H' a = H a := fun x a ha => by
    obtain ⟨u, hu⟩ := mut_some (W.mu x a ha)
    rw [hu]; exact f a u hu fun g => h.d x a ha g
  refine ⟨⟨W.lg, W.ln, fun i mi q => ?_, fun k t q => ?_, W.dj, W.sn, fun x a ha => by rw [k1 x a ha]; exact W.mu x a ha, fun a o q ni => ?_, W.pn⟩, r', fun x a ha hb => ?_, fun a ha => ?_⟩
  · obtain ⟨v', z1, z2⟩ := W.sl i mi q
    exact ⟨v', z1, rM.st tf (k1 _) z2⟩
  · obtain ⟨v', z1, z2⟩ := W.tp k t q
    exact ⟨v', z1, rT.st tf (k1 _) z2⟩
  · refine f a o (W.fr a o q ni) fun g => ?_
    rcases h.s a g with z | z
    · exact ni z
    · rw [q] at z; cases z
  · rcases n a hb with z | z
    · exact h.d x a ha z
    · obtain ⟨u, hu⟩ := mut_some (W.mu x a ha)
      rw [hu] at z; cases z
  · rcases n a ha with z | z
    · exact h.s a z
    · by_cases hi : C.io a
      · exact .inl hi
      · refine .inr ?_
        cases q : C.H0 a with
        | none => rfl
        | some o => rw [W.fr a o q hi] at z; cases z
theorem As.blob : ∀ {ts : List T} {ms : List M} {us : List V} {Ts : List T} {vs : List V}, ts.map T.mo = ms.map some → us.length = ts.length → As C Γ (Ts ++ ts) σ (vs ++ us) H →
    ∃ fp G, AsB C Γ Ts σ vs ms us H fp G ∧ ∀ (k j : Nat) (m : M), ts[k]? = some (.tk j m) → ∃ u, us[k]? = some u ∧ σ[j]? = some (some u)
  | [], [], us, Ts, vs, e, hl, ⟨fp, W⟩ => by
    have : us = [] := List.length_eq_zero_iff.mp hl
    subst this
    simp at W
    exact ⟨fp, e0, AsB.nil W, fun k j m q => by simp at q⟩
  | [], m :: ms, us, Ts, vs, e, hl, h => by simp at e
  | t :: ts, [], us, Ts, vs, e, hl, h => by simp at e
  | t :: ts, m :: ms, [], Ts, vs, e, hl, h => by simp at hl
  | t :: ts, m :: ms, u :: us, Ts, vs, e, hl, h => by
    have h' : As C Γ ((Ts ++ [t]) ++ ts) σ ((vs ++ [u]) ++ us) H := by simpa using h
    simp only [List.map_cons, List.cons.injEq] at e
    obtain ⟨fp, G, B, q⟩ := As.blob (ts := ts) (ms := ms) e.2 (by simpa using hl) h'
    have ln : Ts.length = vs.length := by have := B.w.ln; simp at this; exact this
    obtain ⟨v1, hv, r⟩ := B.w.tp Ts.length t app_last
    have ev : v1 = u := by rw [ln, app_last] at hv; exact (Option.some.inj hv).symm
    subst ev
    have rm : rM C.K m v1 H (fp (.inr Ts.length)) := by
      cases t with
      | own m' => cases e.1; exact r
      | tk j m' => cases e.1; exact r.2
      | al j => cases e.1
      | hid _ _ => cases e.1
      | hal _ _ => cases e.1
      | hip _ _ _ => cases e.1
    obtain ⟨fq, G', B'⟩ := B.cons rm
    refine ⟨fq, G', B', fun k j m' hk => ?_⟩
    cases k with
    | zero =>
      simp at hk
      subst hk
      exact ⟨v1, rfl, r.1⟩
    | succ k => exact q k j m' (by simpa using hk)
theorem AsB.as {ms : List M} {us : List V} {G : FS} (h : AsB C Γ Ts σ vs ms us H fp G) : As C Γ Ts σ vs H := ⟨fp, h.w⟩
/-- the slots take back what was taken out of them -/
def putAll : Ctx → List (Option Nat) → List M → Ctx
  | Γ, [], _ => Γ
  | Γ, _, [] => Γ
  | Γ, some j :: js, m :: ms => putAll (Γ.set j (some m)) js ms
  | Γ, none :: js, _ :: ms => putAll Γ js ms
theorem AsB.putAll : ∀ {js : List (Option Nat)} {ms : List M} {us : List V} {Γ : Ctx} {fp : Sum Nat Nat → FS} {G : FS}, AsB C Γ Ts σ vs ms us H fp G →
    (∀ (k j : Nat), js[k]? = some (some j) → ∃ u, us[k]? = some u ∧ σ[j]? = some (some u)) → As C (putAll Γ js ms) Ts σ vs H
  | [], ms, us, Γ, fp, G, B, q => by unfold RL.putAll; exact B.as
  | j :: js, [], us, Γ, fp, G, B, q => by unfold RL.putAll; exact B.as
  | j :: js, m :: ms, us, Γ, fp, G, B, q => by
    have hus : ∃ u us', us = u :: us' := by
      have r := B.r
      unfold rMs at r
      obtain ⟨w, ws, _, _, e, _⟩ := r
      exact ⟨w, ws, e⟩
    obtain ⟨u, us', rfl⟩ := hus
    obtain ⟨fq, G', B'⟩ := B.uncons
    cases j with
    | none =>
      unfold RL.putAll
      have W := B'.w
      have ln : Ts.length = vs.length := by have := W.ln; simp at this; exact this
      refine AsB.putAll (fp := fq) (G := G') ⟨⟨W.lg, ln, W.sl, fun k t hk => ?_, W.dj, W.sn, W.mu, W.fr, W.pn⟩, B'.r, B'.d, B'.s⟩ fun k j hk => q (k + 1) j (by simpa using hk)
      have hl : k < Ts.length := (List.getElem?_eq_some_iff.mp hk).1
      obtain ⟨v', r1, r2⟩ := W.tp k t (by rw [app_left hl]; exact hk)
      exact ⟨v', by rw [app_left (by omega)] at r1; exact r1, r2⟩
    | some j =>
      unfold RL.putAll
      obtain ⟨u', hu', hσ⟩ := q 0 j rfl
      cases hu'
      have W := B'.w
      have ln : Ts.length = vs.length := by have := W.ln; simp at this; exact this
      obtain ⟨v1, hv, r⟩ := W.tp Ts.length _ app_last
      have ev : v1 = u := by rw [ln, app_last] at hv; exact (Option.some.inj hv).symm
      subst ev
      -- the value on top goes to the slot j, the rest stays
      let fz : Sum Nat Nat → FS := fun y => if y = .inl j then fq (.inr Ts.length) else if y = .inr Ts.length then e0 else fq y
      have q1 : fz (.inl j) = fq (.inr Ts.length) := if_pos rfl
      have q0 : fz (.inr Ts.length) = e0 := (if_neg (fun z => nomatch z)).trans (if_pos rfl)
      have q2 : ∀ y, y ≠ .inl j → y ≠ .inr Ts.length → fz y = fq y := fun y h1 h2 => (if_neg h1).trans (if_neg h2)
      have le : ∀ y a, fz y a → (y = .inl j ∧ fq (.inr Ts.length) a) ∨ (y ≠ .inl j ∧ y ≠ .inr Ts.length ∧ fq y a) := fun y a ha => by
        by_cases h1 : y = .inl j
        · subst h1; rw [q1] at ha; exact .inl ⟨rfl, ha⟩
        · by_cases h2 : y = .inr Ts.length
          · subst h2; rw [q0] at ha; exact ha.elim
          · rw [q2 y h1 h2] at ha; exact .inr ⟨h1, h2, ha⟩
      have ex : ∀ y a, fz y a → ∃ x, fq x a := fun y a ha => by
        rcases le y a ha with ⟨_, h⟩ | ⟨_, _, h⟩
        · exact ⟨_, h⟩
        · exact ⟨_, h⟩
      refine AsB.putAll (fp := fz) (G := G') ⟨⟨by simp [W.lg], ln, fun i mi hi => ?_, fun k t hk => ?_, fun x y hxy a ha hb => ?_, fun x a ha => ?_, fun x a ha => ?_, W.fr, W.pn⟩, B'.r, fun x a ha hb => ?_, B'.s⟩ fun k j hk => q (k + 1) j (by simpa using hk)
      · by_cases e : i = j
        · subst e
          have hl : i < Γ.length := by
            have := (List.getElem?_eq_some_iff.mp hi).1
            simpa using this
          rw [List.getElem?_set_self hl] at hi
          cases hi
          exact ⟨v1, hσ, by rw [q1]; exact r⟩
        · rw [List.getElem?_set_ne (Ne.symm e)] at hi
          obtain ⟨v', r1, r2⟩ := W.sl i mi hi
          exact ⟨v', r1, by rw [q2 (.inl i) (fun z => e (Sum.inl.inj z)) (fun z => nomatch z)]; exact r2⟩
      · have hl : k < Ts.length := (List.getElem?_eq_some_iff.mp hk).1
        obtain ⟨v', r1, r2⟩ := W.tp k t (by rw [app_left hl]; exact hk)
        refine ⟨v', by rw [app_left (by omega)] at r1; exact r1, ?_⟩
        rw [q2 (.inr k) (fun z => nomatch z) (fun z => by have := Sum.inr.inj z; omega)]
        exact r2
      · rcases le x a ha with ⟨h1, h2⟩ | ⟨h1, h2, h3⟩
        · rcases le y a hb with ⟨g1, g2⟩ | ⟨g1, g2, g3⟩
          · exact hxy (h1.trans g1.symm)
          · exact W.dj _ _ (Ne.symm g2) a h2 g3
        · rcases le y a hb with ⟨g1, g2⟩ | ⟨g1, g2, g3⟩
          · exact W.dj _ _ h2 a h3 g2
          · exact W.dj _ _ hxy a h3 g3
      · obtain ⟨y, h⟩ := ex x a ha
        exact W.sn y a h
      · obtain ⟨y, h⟩ := ex x a ha
        exact W.mu y a h
      · obtain ⟨y, h⟩ := ex x a ha
        exact B'.d y a h hb
end

/-! ### readings -/
def er (C : Cn) (Γ : Ctx) (Ts : List T) (Γ' : Ctx) (t : T) : TE := fun σ H Q => ∃ vs, As C Γ Ts σ vs H ∧ ∀ v H', As C Γ' (Ts ++ [t]) σ (vs ++ [v]) H' → Q v H'
def tr (C : Cn) (Γ : Ctx) (Ts : List T) (Γ' : Ctx) (b : Bool) : TT := fun σ H Q => ∃ vs, As C Γ Ts σ vs H ∧ ∀ H', As C Γ' Ts σ vs H' → Q b H'
def ar (C : Cn) (Γ : Ctx) (Ts : List T) (Γ' : Ctx) (ts : List T) : TA := fun σ H Q => ∃ vs, As C Γ Ts σ vs H ∧ ∀ us H', us.length = ts.length → As C Γ' (Ts ++ ts) σ (vs ++ us) H' → Q us H'
abbrev EE (X : Cx) (C : Cn) (Γ : Ctx) (Ts : List T) (e : Expr) (Γ' : Ctx) (t : T) : Prop := PE X e (er C Γ Ts Γ' t)
abbrev ET (X : Cx) (C : Cn) (Γ : Ctx) (Ts : List T) (e : Expr) (Γ' : Ctx) (b : Bool) : Prop := PT X e (tr C Γ Ts Γ' b)
abbrev EW (X : Cx) (C : Cn) (Γ : Ctx) (Ts : List T) (e : Expr) (Γ' : Ctx) (b : Bool) : Prop := PW X e (tr C Γ Ts Γ' b)
abbrev EA (X : Cx) (C : Cn) (Γ : Ctx) (Ts : List T) (es : List Expr) (Γ' : Ctx) (ts : List T) : Prop := PA X es (ar C Γ Ts Γ' ts)
/-- how a statement or a block ends -/
inductive O where
  | nx (Γ : Ctx) | bk (Γ : Ctx) | ct (Γ : Ctx) | rt (Γ : Ctx) (m : M)
def Cont (C : Cn) (Hs : List T) (o : O) (D : Ends) : Prop := match o with
  | .nx Γ => ∀ σ hs H, As C Γ Hs σ hs H → D.nx σ H
  | .bk Γ => ∀ σ hs H, As C Γ Hs σ hs H → D.bk σ H
  | .ct Γ => ∀ σ hs H, As C Γ Hs σ hs H → D.ct σ H
  | .rt Γ m => ∀ σ hs v H, As C Γ (Hs ++ [.own m]) σ (hs ++ [v]) H → D.rt v H
def sr (C : Cn) (Hs : List T) (Γ : Ctx) (o : O) : TS := fun D σ H => (∃ hs, As C Γ Hs σ hs H) ∧ Cont C Hs o D
abbrev SS (X : Cx) (C : Cn) (Hs : List T) (Γ : Ctx) (sts : List Stmt) (o : O) : Prop := PSs X sts (sr C Hs Γ o)
abbrev S1 (X : Cx) (C : Cn) (Hs : List T) (Γ : Ctx) (st : Stmt) (o : O) : Prop := PS X st (sr C Hs Γ o)

theorem _root_.L2.PE.wk {X : Cx} {e : Expr} {t t' : TE} (h : PE X e t) (w : ∀ σ H Q, t' σ H Q → t σ H Q) : PE X e t' := ⟨fun pins s σ H Q I q => h.run pins s σ H Q I (w _ _ _ q)⟩
theorem _root_.L2.PT.wk {X : Cx} {e : Expr} {t t' : TT} (h : PT X e t) (w : ∀ σ H Q, t' σ H Q → t σ H Q) : PT X e t' := ⟨fun pins s σ H Q I q => h.run pins s σ H Q I (w _ _ _ q)⟩
theorem _root_.L2.PW.wk {X : Cx} {e : Expr} {t t' : TT} (h : PW X e t) (w : ∀ σ H Q, t' σ H Q → t σ H Q) : PW X e t' := ⟨fun wh pins s σ H Q I q => h.run wh pins s σ H Q I (w _ _ _ q)⟩
theorem _root_.L2.PA.wk {X : Cx} {e : List Expr} {t t' : TA} (h : PA X e t) (w : ∀ σ H Q, t' σ H Q → t σ H Q) : PA X e t' := ⟨fun pos pins s σ H Q I q => h.run pos pins s σ H Q I (w _ _ _ q)⟩
theorem _root_.L2.PS.wk {X : Cx} {e : Stmt} {t t' : TS} (h : PS X e t) (w : ∀ σ H Q, t' Q σ H → t Q σ H) : PS X e t' := ⟨fun pins s σ H D I q => h.run pins s σ H D I (w _ _ _ q)⟩
theorem _root_.L2.PSs.wk {X : Cx} {e : List Stmt} {t t' : TS} (h : PSs X e t) (w : ∀ σ H Q, t' Q σ H → t Q σ H) : PSs X e t' := ⟨fun pins s σ H D I q => h.run pins s σ H D I (w _ _ _ q)⟩
theorem pw_never {X : Cx} {e : Expr} : PW X e (fun _ _ _ => False) := ⟨fun _ _ _ _ _ _ _ h => h.elim⟩
theorem pe_never {X : Cx} {e : Expr} : PE X e (fun _ _ _ => False) := ⟨fun _ _ _ _ _ _ h => h.elim⟩
end RL

set_option maxHeartbeats 2000000
/-! RL4: expressions and tests -/
namespace RL
open PySem L2

section
variable {X : Cx} {C : Cn} {Γ Γ1 Γ2 Γ3 Γ' : Ctx} {Ts : List T} {t t1 t2 t3 : T} {ts : List T} {e a b c : Expr} {es rest : List Expr} {pos p p2 : Pos} {i j : Nat} {d d1 d2 d3 : D} {ds : List D} {m : M} {b1 b2 k : Bool}

/-! ### constants, names -/
theorem ee_int {n : Int} {j} : EE X C Γ Ts (.Constant (.int n) j pos) Γ (.im (.int n)) := pe_int.wk fun σ H Q ⟨vs, h, q⟩ => q _ H (h.pushIm Ext.refl (by unfold rD; rfl))
theorem ee_bl {j} : EE X C Γ Ts (.Constant (.bool k) j pos) Γ (.im (.bl k)) := pe_bl.wk fun σ H Q ⟨vs, h, q⟩ => q _ H (h.pushIm Ext.refl (by unfold rD; rfl))
theorem ee_non {j} : EE X C Γ Ts (.Constant .none j pos) Γ (.im .non) := pe_non.wk fun σ H Q ⟨vs, h, q⟩ => q _ H (h.pushIm Ext.refl (by unfold rD; rfl))
theorem ee_str {x : Str} {j} : EE X C Γ Ts (.Constant (.str x) j pos) Γ (.im (.str x)) := pe_str.wk fun σ H Q ⟨vs, h, q⟩ => q _ H (h.pushIm Ext.refl (by unfold rD; rfl))
theorem ee_var (i : Nat) (h : PE X e (tVar i)) (hi : Γ[i]? = some (some (.im d)) := by rfl) : EE X C Γ Ts e Γ (.im d) := h.wk fun σ H Q ⟨vs, h, q⟩ => by
  obtain ⟨v, hv, r⟩ := h.slotIm hi
  exact ⟨v, hv, q v H (h.pushIm Ext.refl r)⟩
theorem ee_al (i : Nat) (h : PE X e (tVar i)) (hi : Γ[i]? = some (some m) := by rfl) : EE X C Γ Ts e Γ (.al i) := h.wk fun σ H Q ⟨vs, h, q⟩ => by
  obtain ⟨v, hv, r⟩ := h.alias hi
  exact ⟨v, hv, q v H r⟩
theorem ee_tk (i : Nat) (h : PE X e (tVar i)) (hi : Γ[i]? = some (some m) := by rfl) : EE X C Γ Ts e (Γ.set i none) (.tk i m) := h.wk fun σ H Q ⟨vs, h, q⟩ => by
  obtain ⟨v, hv, r⟩ := h.take hi
  exact ⟨v, hv, q v H r⟩
theorem ee_mv (i : Nat) (h : PE X e (tVar i)) (hi : Γ[i]? = some (some m) := by rfl) : EE X C Γ Ts e (Γ.set i none) (.own m) := h.wk fun σ H Q ⟨vs, h, q⟩ => by
  obtain ⟨v, hv, r⟩ := h.take hi
  exact ⟨v, hv, q v H r.free⟩
/-- a constant of the module -/
theorem ee_cst {v : V} (h : PE X e (tC v)) (r : ∀ H, rD C.K d v H) : EE X C Γ Ts e Γ (.im d) := h.wk fun σ H Q ⟨vs, h, q⟩ => q _ H (h.pushIm Ext.refl (r H))

/-! ### arguments -/
theorem ea_nil : EA X C Γ Ts [] Γ [] := pa_nil.wk fun σ H Q ⟨vs, h, q⟩ => q [] H rfl (by simpa using h)
theorem ea_cons (h1 : EE X C Γ Ts e Γ1 t) (h2 : EA X C Γ1 (Ts ++ [t]) es Γ2 ts) (hs : starEach (e :: es) X.env = (false, eval e X.env) :: starEach es X.env := by rfl) : EA X C Γ Ts (e :: es) Γ2 (t :: ts) := (pa_cons h1 h2 hs).wk fun σ H Q ⟨vs, h, q⟩ =>
  ⟨vs, h, fun v H1 h1 => ⟨vs ++ [v], h1, fun us H2 hl h2 => q (v :: us) H2 (by simp [hl]) (by simpa using h2)⟩⟩

/-! ### operators by values -/
def R2S (C : Cn) (Γ : Ctx) (Ts : List T) (t1 t2 : T) (r : R2) (Γ' : Ctx) (t3 : T) : Prop :=
  ∀ σ vs x y H, As C Γ (Ts ++ [t1] ++ [t2]) σ (vs ++ [x] ++ [y]) H → ∀ Q : VK, (∀ z H', As C Γ' (Ts ++ [t3]) σ (vs ++ [z]) H' → Q z H') → r x y H Q
theorem op_wk {r : R2} (h1 : EE X C Γ Ts a Γ1 t1) (h2 : EE X C Γ1 (Ts ++ [t1]) b Γ2 t2) (hr : R2S C Γ2 Ts t1 t2 r Γ3 t3) {e : Expr} (h : PE X e (tOp r (er C Γ Ts Γ1 t1) (er C Γ1 (Ts ++ [t1]) Γ2 t2))) : EE X C Γ Ts e Γ3 t3 := h.wk fun σ H Q ⟨vs, h, q⟩ =>
  ⟨vs, h, fun x H1 h1 => ⟨vs ++ [x], h1, fun y H2 h2 => hr σ vs x y H2 h2 Q q⟩⟩
theorem ee_op {op : Operator} {r : R2} (ho : OpR X (binaryOp op) r) (h1 : EE X C Γ Ts a Γ1 t1) (h2 : EE X C Γ1 (Ts ++ [t1]) b Γ2 t2) (hr : R2S C Γ2 Ts t1 t2 r Γ3 t3) : EE X C Γ Ts (.BinOp a op b pos) Γ3 t3 := op_wk h1 h2 hr (pe_op ho h1 h2)
theorem ee_cmp {op : CmpOp} {r : R2} (ho : OpR X (compareOp op) r) (hm : behindInMarks op b = false) (h1 : EE X C Γ Ts a Γ1 t1) (h2 : EE X C Γ1 (Ts ++ [t1]) b Γ2 t2) (hr : R2S C Γ2 Ts t1 t2 r Γ3 t3) : EE X C Γ Ts (.Compare a [op] [b] pos) Γ3 t3 := op_wk h1 h2 hr (pe_cmpR ho h1 h2 hm)
theorem et_cmp {op : CmpOp} {r : R2} (ho : OpR X (compareOp op) r) (hm : behindInMarks op b = false) (h1 : EE X C Γ Ts a Γ1 t1) (h2 : EE X C Γ1 (Ts ++ [t1]) b Γ2 t2) (hr : R2S C Γ2 Ts t1 t2 r Γ3 (.im (.bl k))) : ET X C Γ Ts (.Compare a [op] [b] pos) Γ3 k := (pt_cmpR ho h1 h2 hm).wk fun σ H Q ⟨vs, h, q⟩ =>
  ⟨vs, h, fun x H1 h1 => ⟨vs ++ [x], h1, fun y H2 h2 => hr σ vs x y H2 h2 _ fun z H' hz => by
    have e := hz.topIm
    unfold rD at e
    exact ⟨k, e, q H' hz.pop⟩⟩⟩
theorem ee_ix {r : R2} (ho : IxR X r) (hs : PlainIx b) (h1 : EE X C Γ Ts a Γ1 t1) (h2 : EE X C Γ1 (Ts ++ [t1]) b Γ2 t2) (hr : R2S C Γ2 Ts t1 t2 r Γ3 t3) : EE X C Γ Ts (.Subscript a b pos) Γ3 t3 := op_wk h1 h2 hr (pe_ix ho h1 h2 hs)
theorem r2s_im {r : R2} (h : ∀ x y H, rD C.K d1 x H → rD C.K d2 y H → ∀ Q : VK, (∀ z, rD C.K d3 z H → Q z H) → r x y H Q) : R2S C Γ Ts (.im d1) (.im d2) r Γ (.im d3) := fun σ vs x y H hA Q q =>
  h x y H hA.pop.topIm hA.topIm Q fun z hz => q z H (hA.pop.pop.pushIm Ext.refl hz)
theorem r2s_imN {r : R2} (h : ∀ x y H, rD C.K d1 x H → rD C.K d2 y H → ∀ Q : VK, (∀ z H', Ext H H' → rD C.K d3 z H' → Q z H') → r x y H Q) : R2S C Γ Ts (.im d1) (.im d2) r Γ (.im d3) := fun σ vs x y H hA Q q =>
  h x y H hA.pop.topIm hA.topIm Q fun z H' e hz => q z H' ((hA.pop.pop.ext e).pushIm Ext.refl hz)
theorem r2s_int {n n' : Int} {g : Int → Int → V} (h : ∀ H, rD C.K d3 (g n n') H) : R2S C Γ Ts (.im (.int n)) (.im (.int n')) (rI0 g) Γ (.im d3) := r2s_im fun x y H hx hy Q q => by
  unfold rD at hx hy
  exact ⟨n, n', hx, hy, q _ (h H)⟩
theorem r2s_intC {n n' : Int} {G : Int → Int → Prop} {g : Int → Int → V} (hc : G n n') (h : ∀ H, rD C.K d3 (g n n') H) : R2S C Γ Ts (.im (.int n)) (.im (.int n')) (rI G g) Γ (.im d3) := r2s_im fun x y H hx hy Q q => by
  unfold rD at hx hy
  exact ⟨n, n', hx, hy, hc, q _ (h H)⟩
section
variable {n n' : Int}
theorem ee_add (h1 : EE X C Γ Ts a Γ1 (.im (.int n))) (h2 : EE X C Γ1 (Ts ++ [.im (.int n)]) b Γ2 (.im (.int n'))) : EE X C Γ Ts (.BinOp a .Add b pos) Γ2 (.im (.int (n + n'))) := ee_op op_add h1 h2 (r2s_int fun H => by unfold rD; rfl)
theorem ee_sub (h1 : EE X C Γ Ts a Γ1 (.im (.int n))) (h2 : EE X C Γ1 (Ts ++ [.im (.int n)]) b Γ2 (.im (.int n'))) : EE X C Γ Ts (.BinOp a .Sub b pos) Γ2 (.im (.int (n - n'))) := ee_op op_sub h1 h2 (r2s_int fun H => by unfold rD; rfl)
theorem ee_mul (hc : CMul n n') (h1 : EE X C Γ Ts a Γ1 (.im (.int n))) (h2 : EE X C Γ1 (Ts ++ [.im (.int n)]) b Γ2 (.im (.int n'))) : EE X C Γ Ts (.BinOp a .Mult b pos) Γ2 (.im (.int (n * n'))) := ee_op op_mul h1 h2 (r2s_intC hc fun H => by unfold rD; rfl)
theorem ee_fdivW (hc : CDivW n n') (h1 : EE X C Γ Ts a Γ1 (.im (.int n))) (h2 : EE X C Γ1 (Ts ++ [.im (.int n)]) b Γ2 (.im (.int n'))) : EE X C Γ Ts (.BinOp a .FloorDiv b pos) Γ2 (.im (.int (n / n'))) := ee_op op_fdivW h1 h2 (r2s_intC hc fun H => by unfold rD; rfl)
theorem ee_mod (hc : 0 < n') (h1 : EE X C Γ Ts a Γ1 (.im (.int n))) (h2 : EE X C Γ1 (Ts ++ [.im (.int n)]) b Γ2 (.im (.int n'))) : EE X C Γ Ts (.BinOp a .Mod b pos) Γ2 (.im (.int (n % n'))) := ee_op op_mod h1 h2 (r2s_intC hc fun H => by unfold rD; rfl)
theorem et_lt (h1 : EE X C Γ Ts a Γ1 (.im (.int n))) (h2 : EE X C Γ1 (Ts ++ [.im (.int n)]) b Γ2 (.im (.int n'))) : ET X C Γ Ts (.Compare a [.Lt] [b] pos) Γ2 (decide (n < n')) := et_cmp op_lt (nomark _) h1 h2 (r2s_int fun H => by unfold rD; rfl)
theorem et_gt (h1 : EE X C Γ Ts a Γ1 (.im (.int n))) (h2 : EE X C Γ1 (Ts ++ [.im (.int n)]) b Γ2 (.im (.int n'))) : ET X C Γ Ts (.Compare a [.Gt] [b] pos) Γ2 (decide (n' < n)) := et_cmp op_gt (nomark _) h1 h2 (r2s_int fun H => by unfold rD; rfl)
theorem et_ge (h1 : EE X C Γ Ts a Γ1 (.im (.int n))) (h2 : EE X C Γ1 (Ts ++ [.im (.int n)]) b Γ2 (.im (.int n'))) : ET X C Γ Ts (.Compare a [.GtE] [b] pos) Γ2 (decide (n' ≤ n)) := et_cmp op_ge (nomark _) h1 h2 (r2s_int fun H => by unfold rD; rfl)
theorem ee_lt (h1 : EE X C Γ Ts a Γ1 (.im (.int n))) (h2 : EE X C Γ1 (Ts ++ [.im (.int n)]) b Γ2 (.im (.int n'))) : EE X C Γ Ts (.Compare a [.Lt] [b] pos) Γ2 (.im (.bl (decide (n < n')))) := ee_cmp op_lt (nomark _) h1 h2 (r2s_int fun H => by unfold rD; rfl)
end
/-! ### == of data without depth -/
def D.sc : D → Option V
  | .non => some .non | .bl b => some (.bl b) | .int i => some (.int i) | .str s => some (.str s)
  | _ => none
theorem rD.sc {K : PySem.W.Frag} {H : Hp} {v w : V} (h : rD K d v H) (e : d.sc = some w) : v = w := by
  cases d <;> first | (cases e; unfold rD at h; exact h) | cases e
theorem r2s_eq {v w : V} (e1 : d1.sc = some v) (e2 : d2.sc = some w) (hs : scal v w = true) (hk : decide (v = w) = k) : R2S C Γ Ts (.im d1) (.im d2) rEq Γ (.im (.bl k)) := r2s_im fun x y H hx hy Q q => by
  have := hx.sc e1
  have := hy.sc e2
  subst x y
  exact ⟨hs, q _ (by rw [hk]; unfold rD; rfl)⟩
theorem r2s_ne {v w : V} (e1 : d1.sc = some v) (e2 : d2.sc = some w) (hs : scal v w = true) (hk : (!decide (v = w)) = k) : R2S C Γ Ts (.im d1) (.im d2) rNe Γ (.im (.bl k)) := r2s_im fun x y H hx hy Q q => by
  have := hx.sc e1
  have := hy.sc e2
  subst x y
  exact ⟨hs, q _ (by rw [hk]; unfold rD; rfl)⟩
theorem eq_dec {α : Type} [DecidableEq α] {x y : α} {P : Prop} [Decidable P] (h : P ↔ x = y) : decide P = decide (x = y) := by
  by_cases e : x = y
  · simp [e, h.2 e]
  · have : ¬ P := fun z => e (h.1 z)
    simp [e, this]
theorem et_eqI {n n' : Int} (h1 : EE X C Γ Ts a Γ1 (.im (.int n))) (h2 : EE X C Γ1 (Ts ++ [.im (.int n)]) b Γ2 (.im (.int n'))) : ET X C Γ Ts (.Compare a [.Eq] [b] pos) Γ2 (decide (n = n')) :=
  et_cmp op_eq (nomark _) h1 h2 (r2s_eq rfl rfl rfl (eq_dec ⟨fun z => by cases z; rfl, fun z => by rw [z]⟩))
theorem et_neI {n n' : Int} (h1 : EE X C Γ Ts a Γ1 (.im (.int n))) (h2 : EE X C Γ1 (Ts ++ [.im (.int n)]) b Γ2 (.im (.int n'))) : ET X C Γ Ts (.Compare a [.NotEq] [b] pos) Γ2 (!decide (n = n')) :=
  et_cmp op_ne (nomark _) h1 h2 (r2s_ne rfl rfl rfl (congrArg not (eq_dec ⟨fun z => by cases z; rfl, fun z => by rw [z]⟩)))
theorem et_neS {n n' : Str} (h1 : EE X C Γ Ts a Γ1 (.im (.str n))) (h2 : EE X C Γ1 (Ts ++ [.im (.str n)]) b Γ2 (.im (.str n'))) : ET X C Γ Ts (.Compare a [.NotEq] [b] pos) Γ2 (!decide (n = n')) :=
  et_cmp op_ne (nomark _) h1 h2 (r2s_ne rfl rfl rfl (congrArg not (eq_dec ⟨fun z => by cases z; rfl, fun z => by rw [z]⟩)))
/-! ### tests -/
theorem et_val (h : EE X C Γ Ts e Γ1 (.im (.bl k))) (he : ∀ whole, isTrue e X.env whole = (do let v ← whole; standAt e.pos; holding [v] (truthy v)) := by intro _; rfl) : ET X C Γ Ts e Γ1 k := (pt_val h he).wk fun σ H Q ⟨vs, h, q⟩ =>
  ⟨vs, h, fun v H1 h1 => by
    have e := h1.topIm
    unfold rD at e
    exact ⟨k, e, q H1 h1.pop⟩⟩
theorem et_not (h : ET X C Γ Ts a Γ1 k) : ET X C Γ Ts (.UnaryOp .Not a pos) Γ1 (!k) := (pt_not h).wk fun σ H Q ⟨vs, h, q⟩ => ⟨vs, h, fun H1 h1 => q H1 h1⟩
/-- and: the rest is asked where the first holds -/
theorem ew_and (h1 : ET X C Γ Ts a Γ1 b1) (h2 : b1 = true → EW X C Γ1 Ts (.BoolOp .And (b :: rest) pos) Γ' k) (h3 : b1 = false → Γ' = Γ1 ∧ k = false) : EW X C Γ Ts (.BoolOp .And (a :: b :: rest) pos) Γ' k := by
  cases b1 with
  | true => exact (pw_and h1 (h2 rfl)).wk fun σ H Q ⟨vs, h, q⟩ => ⟨vs, h, fun H1 h1 => ⟨vs, h1, q⟩⟩
  | false =>
    obtain ⟨rfl, rfl⟩ := h3 rfl
    exact (pw_and h1 pw_never).wk fun σ H Q ⟨vs, h, q⟩ => ⟨vs, h, fun H1 h1 => q H1 h1⟩
theorem ew_or (h1 : ET X C Γ Ts a Γ1 b1) (h2 : b1 = false → EW X C Γ1 Ts (.BoolOp .Or (b :: rest) pos) Γ' k) (h3 : b1 = true → Γ' = Γ1 ∧ k = true) : EW X C Γ Ts (.BoolOp .Or (a :: b :: rest) pos) Γ' k := by
  cases b1 with
  | false => exact (pw_or h1 (h2 rfl)).wk fun σ H Q ⟨vs, h, q⟩ => ⟨vs, h, fun H1 h1 => ⟨vs, h1, q⟩⟩
  | true =>
    obtain ⟨rfl, rfl⟩ := h3 rfl
    exact (pw_or h1 pw_never).wk fun σ H Q ⟨vs, h, q⟩ => ⟨vs, h, fun H1 h1 => q H1 h1⟩
theorem ew_and1 (h : ET X C Γ Ts a Γ' k) : EW X C Γ Ts (.BoolOp .And [a] pos) Γ' k := pw_and1 h
theorem ew_or1 (h : ET X C Γ Ts a Γ' k) : EW X C Γ Ts (.BoolOp .Or [a] pos) Γ' k := pw_or1 h
theorem ET.ofW (h : EW X C Γ Ts e Γ' k) : ET X C Γ Ts e Γ' k := h.pt
theorem ee_if (hc : ET X C Γ Ts c Γ1 k) (h1 : k = true → EE X C Γ1 Ts a Γ' t) (h2 : k = false → EE X C Γ1 Ts b Γ' t) : EE X C Γ Ts (.IfExp c a b pos) Γ' t := by
  cases k with
  | true => exact (pe_ifExp hc (h1 rfl) pe_never).wk fun σ H Q ⟨vs, h, q⟩ => ⟨vs, h, fun H1 h1 => ⟨vs, h1, q⟩⟩
  | false => exact (pe_ifExp hc pe_never (h2 rfl)).wk fun σ H Q ⟨vs, h, q⟩ => ⟨vs, h, fun H1 h1 => by
      show (if false = true then _ else _)
      rw [if_neg Bool.false_ne_true]
      exact ⟨vs, h1, q⟩⟩

/-! ### displays -/
theorem As.ims {us vs : List V} {σ H} (hl : us.length = ds.length) (h : As C Γ (Ts ++ ds.map T.im) σ (vs ++ us) H) : rDs C.K ds us H ∧ As C Γ Ts σ vs H := by
  obtain ⟨fp, G, B, _⟩ := h.blob (ms := ds.map M.im) (by simp [List.map_map]; intro d hd; rfl) (by simpa using hl)
  exact ⟨B.r.imD, B.as⟩
theorem rDs.len {K : PySem.W.Frag} {H : Hp} : ∀ {ds : List D} {us : List V}, rDs K ds us H → us.length = ds.length
  | [], us, h => by unfold rDs at h; rw [h] <;> rfl
  | d :: ds, us, h => by
    unfold rDs at h
    obtain ⟨w, ws, e, r, s⟩ := h
    rw [e, List.length_cons, List.length_cons, s.len]
theorem ee_tup {x1} (h : EA X C Γ Ts es Γ1 (ds.map T.im)) (hl : ds.length ≤ 1000) : EE X C Γ Ts (.Tuple es x1 pos) Γ1 (.im (.tup ds)) := (pe_tupN h).wk fun σ H Q ⟨vs, h, q⟩ => ⟨vs, h, fun us H1 l h1 => by
  have l' : us.length = ds.length := by simpa using l
  obtain ⟨r, h2⟩ := As.ims l' h1
  refine ⟨Nat.le_trans (by omega) (show 1000 ≤ sizeLine by decide), fun p o hp ho => q _ _ (h2.pushIm (Ext.new hp) ?_)⟩
  unfold rD
  exact ⟨p, us, rfl, SqN.new upd_same ho, r.tf (Ext.new hp).tf⟩⟩
theorem ee_lst (h : EA X C Γ Ts es Γ1 (ds.map T.im)) (hl : ds.length ≤ 1000) : EE X C Γ Ts (.List es pos) Γ1 (.own (.li ds)) := (pe_lst h).wk fun σ H Q ⟨vs, h, q⟩ => ⟨vs, h, fun us H1 l h1 => by
  have l' : us.length = ds.length := by simpa using l
  obtain ⟨r, h2⟩ := As.ims l' h1
  refine ⟨Nat.le_trans (by omega) (show 1000 ≤ sizeLine by decide), fun p hp => q _ _ (h2.push (Ext.new hp) (t := .own (.li ds)) (F := fun a => a = p) ?_ (fun a e => by rw [e]; exact hp) fun a e => by rw [e, upd_same]; trivial)⟩
  show rM _ _ _ _ _
  unfold rM
  exact ⟨p, us, rfl, upd_same, r.tf (Ext.new hp).tf, fun b => Iff.rfl⟩⟩
/-! ### calls of built-ins by values -/
def CLS (C : Cn) (Γ : Ctx) (Ts ts : List T) (r : List V → Hp → VK → Prop) (Γ' : Ctx) (t : T) : Prop :=
  ∀ σ vs us H, us.length = ts.length → As C Γ (Ts ++ ts) σ (vs ++ us) H → ∀ Q : VK, (∀ z H', As C Γ' (Ts ++ [t]) σ (vs ++ [z]) H' → Q z H') → r us H Q
theorem cb_wk {r : List V → Hp → VK → Prop} (hr : CLS C Γ1 Ts ts r Γ2 t) {e : Expr} (h : PE X e (tCB r (ar C Γ Ts Γ1 ts))) : EE X C Γ Ts e Γ2 t := h.wk fun σ H Q ⟨vs, h, q⟩ =>
  ⟨vs, h, fun us H1 hl h1 => hr σ vs us H1 hl h1 Q q⟩
theorem cls_1 {r : List V → Hp → VK → Prop} (h : ∀ x H, rD C.K d1 x H → ∀ Q : VK, (∀ z, rD C.K d3 z H → Q z H) → r [x] H Q) : CLS C Γ Ts [.im d1] r Γ (.im d3) := fun σ vs us H hl hA Q q => by
  obtain ⟨u, rfl⟩ : ∃ u, us = [u] := List.length_eq_one_iff.mp hl
  exact h u H hA.topIm Q fun z hz => q z H (hA.pop.pushIm Ext.refl hz)
end
end RL

set_option maxHeartbeats 2000000
/-! RL5: defs and their calls (where no guard of a text's making runs) -/
namespace RL
open PySem L2 PySem.Spec

/-- a def keeps its promise, called where no repr is under way -/
structure FnG (P : Program) (w : World) (K : PySem.W.Frag) (mg : Str → Option Value) (base : Heap) (k : Nat) (f : Addr) (fd : FuncData) (ps : List Str) (sp : Sp) : Prop where
  len : ∀ vs H Q E, sp vs H Q E → vs.length = ps.length
  go : ∀ (A : Around) (outer : List Env) (s : Shared) (H : Hp) (args : Args) (us : List Value) (vs : List V) (Q : VK) (E : XK), Room k A → A.guards = some [] → Env0 P w K mg base A outer s H → BindsTo s fd args (ps.zip us) → Vals vs us →
    sp vs H Q E → codeAny (model P w) A (.call (.ref f) args) (CR CX0 outer P w H s Q E) s
theorem FnG.mono {P : Program} {w : World} {K : PySem.W.Frag} {mg : Str → Option Value} {base : Heap} {j k : Nat} {f : Addr} {fd : FuncData} {ps : List Str} {sp : Sp} (F : FnG P w K mg base j f fd ps sp) (h : j ≤ k) : FnG P w K mg base k f fd ps sp :=
  ⟨F.len, fun A outer s H args us vs Q E hr => F.go A outer s H args us vs Q E (hr.mono h)⟩
theorem FnG.imp {P : Program} {w : World} {K : PySem.W.Frag} {mg : Str → Option Value} {base : Heap} {k : Nat} {f : Addr} {fd : FuncData} {ps : List Str} {sp sp' : Sp} (F : FnG P w K mg base k f fd ps sp) (h : ∀ vs H Q E, sp' vs H Q E → sp vs H Q E) : FnG P w K mg base k f fd ps sp' :=
  ⟨fun vs H Q E q => F.len vs H Q E (h _ _ _ _ q), fun A outer s H args us vs Q E hr hg he hb hv hs => F.go A outer s H args us vs Q E hr hg he hb hv (h _ _ _ _ hs)⟩
/-- from a body -/
theorem FnG.of {P : Program} {w : World} {K : PySem.W.Frag} {mg : Str → Option Value} {base : Heap} {k : Nat} {f : Addr} {x qual : Str} {params : Arguments} {body : List Stmt} {sc : Scope} {dV kV doc pm cdv ct oc : Value} {an od : Option Addr} {osl : Array (Option Value)} {N ps : List Str} {sp : Sp}
    (lk : K.lookup f = some ⟨oc, od, .func (PySem.W.fnOf x qual params body sc dV kV doc pm an cdv ct), osl⟩) (hcd : PySem.W.codeIn K cdv qual = true) (S : FnScope N ps sc) (len : ∀ vs H Q E, sp vs H Q E → vs.length = ps.length)
    (hbody : ∀ (A : Around) (outer : List Env) (s : Shared) (H : Hp) (vs : List V) (Q : VK) (E : XK), Room k (A.deeper (PyProof.Rows.envOfC qual sc s.heap.objs.size f cdv)) → A.guards = some [] → sp vs H Q E →
      ∃ t, PSs (cxOf CX0 P w K mg base N qual sc f cdv A outer s H E).nox body t ∧ t { nx := fun _ H' => Q .non H', rt := Q } (start N vs) H) :
    FnG P w K mg base (k + 1) f (PySem.W.fnOf x qual params body sc dV kV doc pm an cdv ct) ps sp := by
  constructor
  · exact len
  intro A outer s H args us vs Q E hr hg e0 hb rel hsp
  have hlen := len _ _ _ _ hsp
  have kin : K.In s.heap := e0.mod.kin.keeps (fun b o z => (e0.bs b o z).1)
  have nol : s.heap.NoLimit := e0.mod.nolimit.keeps (fun b o z => (e0.bs b o z).1)
  have kinds : ∀ y ∈ ps.zip us, sc.names.lookup y.1 = some .local ∨ (sc.names.lookup y.1 = some .cell ∧ ((cellsFrom (s.heap.objs.size + 1) sc.names []).lookup y.1).isSome = true) := by
    rintro ⟨n, v⟩ hy
    exact (S.par n (List.of_mem_zip hy).1).elim .inl fun z => .inr ⟨z, PySem.W.cellsFrom_some _ _ _ (.inl z)⟩
  refine codeAny_call_function hr.depth (kin _ _ lk) rfl S.co S.gen rfl (PySem.W.codeRec_of kin hcd) (hb _ _ _ _ ?_)
  refine wpAny_newFunctionEnv_cells S.kind kinds fun env he s1 made => ?_
  subst he
  refine ⟨nol.keeps made.toInCall.keep, codeAny_func ?_⟩
  obtain ⟨t, ht, hq⟩ := hbody A outer s H vs Q E (hr.deeper _) hg hsp
  have inv : Inv (cxOf CX0 P w K mg base N qual sc f cdv A outer s H E) [] (start N vs) H s1 := inv_start S hr.hd e0 hlen rel made
  refine wpAny_mono (ht.nox.run [] s1 (start N vs) H _ inv hq) (fun fl s' hs => ?_) (fun e s' hs => hs)
  cases fl with
  | next =>
    obtain ⟨σ', H', J, q⟩ := hs
    exact ⟨V.non, H', J.os, J.bare, J.base, J.hok, rfl, q⟩
  | ret u =>
    obtain ⟨v, σ', H', J, rv, q⟩ := hs
    exact ⟨v, H', J.os, J.bare, J.base, J.hok, rv, q⟩
  | brk =>
    obtain ⟨_, _, _, q⟩ := hs
    cases q
  | cont =>
    obtain ⟨_, _, _, q⟩ := hs
    cases q

section
variable {X : Cx} {k : Nat} {f : Addr} {fd : FuncData} {ps ks : List Str} {sp : Sp} {x : Str} {p pos : Pos} {e : Expr} {es : List Expr} {kws : List Keyword} {ta tk : TA} {gV : List V → List V → List V} {g : List Value → List Value → List Value}
/-- the callee runs, however its arguments have come -/
theorem runG {pins : List (Addr × Obj)} {σ : St} {H : Hp} {s : Shared} {Q : VK} {us ws : List Value} {kw : List (Str × Value)} {vs : List V} (F : FnG X.prog X.w X.K X.mg X.base k f fd ps sp) (hr : Room k X.A) (hg : X.A.guards = some [])
    (I : Inv X pins σ H s) (hb : us.length = ps.length → BindsTo s fd ⟨ws, kw⟩ (ps.zip us)) (r : Vals vs us) (h : sp vs H Q E0) : wpAny (model X.prog X.w) X.A (call (.ref f) ws kw) (EP X pins σ Q) X.xe s := by
  have hl : us.length = ps.length := r.length.symm.trans (F.len _ _ _ _ h)
  refine wpAny_call (codeAny_mono (F.go X.A X.stack s H ⟨ws, kw⟩ us vs Q E0 hr hg I.env0 (hb hl) r h) (fun r s' hq => ?_))
  match r, hq with
  | .ok (.ret u), hq => exact I.after hq
  | .ok .next, hq => exact hq.elim
  | .ok .brk, hq => exact hq.elim
  | .ok .cont, hq => exact hq.elim
  | .error e, hq => exact hq.elim
/-- f(a, ..) -/
theorem pe_callG (F : FnG X.prog X.w X.K X.mg X.base k f fd ps sp) (hr : Room k X.A) (hG : X.A.guards = some []) (hg : Gl X x) (hm : X.mg x = some (.ref f)) (hk : PySem.W.keepIn X.K (.ref f) = true) (hb : Binds X.K fd ps [])
    (ha : PA X (e :: es) ta) (hdb : (x == ("__debug__" : Str)) = false := by decide) (he : starEach (e :: es) X.env = (false, eval e X.env) :: starEach es X.env := by rfl) (hpl : (backTo pos (starEach es X.env)).any (·.1) = false := by rfl) :
    PE X (.Call (.Name x p) (e :: es) [] pos) (fun σ H Q => ta σ H fun vs H1 => sp vs H1 Q E0) := by
  constructor
  intro pins s σ H Q I h
  refine wpAny_Call_Name_kw (ld_glob I hg hm ?_ hdb)
  refine PySem.W.callWith_K (h₀ := X.base) I.ok.mod.kin hk (thn (ha.run pos pins s σ H _ I h) fun us s1 ⟨vs, H1, I1, r, q⟩ => ⟨I1.kIn, ?_⟩) he hpl
  exact runG F hr hG I1 (us := us) (fun hl => by simpa using hb s1 us I1.kIn (by simpa using hl)) r q
/-- f(k = b, ..) -/
theorem pe_callGK0 (F : FnG X.prog X.w X.K X.mg X.base k f fd ps sp) (hr : Room k X.A) (hG : X.A.guards = some []) (hg : Gl X x) (hm : X.mg x = some (.ref f)) (hk : PySem.W.keepIn X.K (.ref f) = true) (hb : KBinds X.K fd ps ks g gV)
    (hkw : PK X kws tk) (hall : (backToKw pos (keywordEach kws X.env)).all (·.1.isSome) = true := by rfl) (hks : (backToKw pos (keywordEach kws X.env)).filterMap (·.1) = ks := by rfl)
    (hdb : (x == ("__debug__" : Str)) = false := by decide) (hpl : ((backTo pos (starEach [] X.env)).any (·.1) || (backToKw pos (keywordEach kws X.env)).any (·.1.isNone)) = false := by rfl) :
    PE X (.Call (.Name x p) [] kws pos) (fun σ H Q => tk σ H fun zs H2 => sp (gV [] zs) H2 Q E0) := by
  constructor
  intro pins s σ H Q I h
  refine wpAny_Call_Name_kw (ld_glob I hg hm ?_ hdb)
  refine PySem.W.callWith_KW0 (h₀ := X.base) I.ok.mod.kin hk hall (thn (hkw.run pos pins s σ H _ I h) fun ws s2 ⟨zs, H2, I2, rz, q2⟩ => ⟨I2.kIn, ?_⟩) hpl
  rw [hks]
  exact runG F hr hG I2 (us := g [] ws) (fun hl => hb.to s2 [] ws I2.kIn hl) (hb.rel .nil rz) q2
end

/-! ### a def's promise over data -/
/-- called with ms it hands back r; the parameters at ios then bear ms' -/
def spR (K : PySem.W.Frag) (n : Nat) (ios : List Nat) (rel : List M → M → List M → Prop) : Sp := fun vs H Q _ => ∃ ms F r ms', vs.length = n ∧ rMs K ms vs H F ∧ rel ms r ms' ∧ ms'.length = ios.length ∧
  ∀ v H' F', rMs K (r :: ms') (v :: ios.map fun i => vs.getD i .non) H' F' → (∀ a, F' a → F a ∨ H a = none) → Frm H F H' → Q v H'
theorem spR_len {K : PySem.W.Frag} {n : Nat} {ios : List Nat} {rel : List M → M → List M → Prop} {ps : List Str} (h : n = ps.length) : ∀ vs H Q E, spR K n ios rel vs H Q E → vs.length = ps.length := fun vs H Q E ⟨_, _, _, _, e, _⟩ => e.trans h

section
variable {X : Cx} {C : Cn} {Γ Γ1 Γ2 : Ctx} {Ts ts : List T} {k n : Nat} {f : Addr} {fd : FuncData} {ps ks : List Str} {x : Str} {p pos : Pos} {e : Expr} {es : List Expr} {ios : List Nat} {rel : List M → M → List M → Prop} {ms ms' : List M} {r : M}
/-- which slots take back what comes back -/
def jsOf (ts : List T) (ios : List Nat) : List (Option Nat) := ios.map fun i => match (ts[i]? : Option RL.T) with
  | some (.tk j _) => some j
  | _ => none
theorem spR_use {σ : St} {vs us : List V} {H : Hp} {Q : VK} (hK : X.K = C.K) (hl : us.length = ts.length) (hn : ts.length = n) (hm : ts.map T.mo = ms.map some) (hrel : rel ms r ms') (hms : ms'.length = ios.length) (h : As C Γ (Ts ++ ts) σ (vs ++ us) H)
    (q : ∀ v H', As C (putAll Γ (jsOf ts ios) ms') (Ts ++ [.own r]) σ (vs ++ [v]) H' → Q v H') : spR X.K n ios rel us H Q E0 := by
  obtain ⟨fp, G, B, tk⟩ := As.blob hm hl h
  rw [hK]
  refine ⟨ms, G, r, ms', hl.trans hn, B.r, hrel, hms, fun v H' F' h1 h2 h3 => q v H' ?_⟩
  obtain ⟨fq, G', B'⟩ := (B.chg h3 h1 h2).uncons
  refine B'.putAll fun i j hi => ?_
  unfold jsOf at hi
  rw [List.getElem?_map] at hi
  cases e : ios[i]? with
  | none => rw [e] at hi; simp at hi
  | some l =>
    rw [e] at hi
    simp only [Option.map_some, Option.some.injEq] at hi
    cases e2 : ts[l]? with
    | none => rw [e2] at hi; cases hi
    | some t =>
      rw [e2] at hi
      cases t with
      | own m => cases hi
      | al j => cases hi
      | hid _ _ => cases hi
      | hal _ _ => cases hi
      | hip _ _ _ => cases hi
      | tk j' m =>
        cases hi
        obtain ⟨u, hu, hs⟩ := tk l j m e2
        refine ⟨u, ?_, hs⟩
        rw [List.getElem?_map, e]
        show some (us.getD l .non) = some u
        rw [List.getD_eq_getElem?_getD, hu] <;> rfl
theorem ee_call (F : FnG X.prog X.w X.K X.mg X.base k f fd ps (spR X.K n ios rel)) (hr : Room k X.A) (hG : X.A.guards = some []) (hm : X.mg x = some (.ref f)) (hk : PySem.W.keepIn X.K (.ref f) = true) (hb : Binds X.K fd ps [])
    (ha : EA X C Γ Ts (e :: es) Γ1 ts) (hrel : rel ms r ms') (hg : Gl X x := by rfl) (hK : X.K = C.K := by rfl) (hn : ts.length = n := by rfl) (hms : ts.map T.mo = ms.map some := by rfl) (hl : ms'.length = ios.length := by rfl) (hdb : (x == ("__debug__" : Str)) = false := by decide)
    (he : starEach (e :: es) X.env = (false, eval e X.env) :: starEach es X.env := by rfl) (hpl : (backTo pos (starEach es X.env)).any (·.1) = false := by rfl) :
    EE X C Γ Ts (.Call (.Name x p) (e :: es) [] pos) (putAll Γ1 (jsOf ts ios) ms') (.own r) :=
  (pe_callG F hr hG hg hm hk hb ha hdb he hpl).wk fun σ H Q ⟨vs, h, q⟩ => ⟨vs, h, fun us H1 l h1 => spR_use hK l hn hms hrel hl h1 q⟩
/-- all by names, data alone -/
inductive EK (X : Cx) (C : Cn) : Ctx → List T → List Keyword → List D → TA → Prop where
  | mk {Γ Ts kws ds tk} (h : PK X kws tk) (w : ∀ σ H vs (Q : List V → Hp → Prop), As C Γ Ts σ vs H → (∀ zs H', Ext H H' → rDs C.K ds zs H' → Q zs H') → tk σ H Q) : EK X C Γ Ts kws ds tk
end
end RL

set_option maxHeartbeats 2000000
/-! RL6: statements, loops, comprehensions -/
namespace RL
open PySem L2

/-! ### less is told -/
def wkL : Ctx → Ctx → Prop
  | [], [] => True
  | none :: a, _ :: b => wkL a b
  | some m :: a, x :: b => x = some m ∧ wkL a b
  | _, _ => False
theorem wkL.of : ∀ {a b : Ctx}, wkL a b → a.length = b.length ∧ ∀ (i : Nat) (m : M), a[i]? = some (some m) → b[i]? = some (some m)
  | [], [], _ => ⟨rfl, fun i m e => by simp at e⟩
  | none :: a, x :: b, h => by
    obtain ⟨h1, h2⟩ := wkL.of (a := a) (b := b) h
    refine ⟨by simp [h1], fun i m e => ?_⟩
    cases i with
    | zero => simp at e
    | succ i => simpa using h2 i m (by simpa using e)
  | some y :: a, x :: b, h => by
    obtain ⟨h0, h⟩ := h
    obtain ⟨h1, h2⟩ := wkL.of (a := a) (b := b) h
    refine ⟨by simp [h1], fun i m e => ?_⟩
    cases i with
    | zero => simp at e; subst e; simp [h0]
    | succ i => simpa using h2 i m (by simpa using e)
  | [], _ :: _, h => h.elim
  | _ :: _, [], h => by rename_i x _; cases x <;> exact h.elim
theorem As.wk {C : Cn} {Γ Γ' : Ctx} {Ts : List T} {σ : L2.St} {vs : List V} {H : Hp} (h : As C Γ Ts σ vs H) (w : wkL Γ' Γ) : As C Γ' Ts σ vs H := h.weak w.of.1 w.of.2

section
variable {X : Cx} {C : Cn} {Γ Γ1 Γ2 Γ3 Γ' : Ctx} {Ts Hs : List T} {t t1 t2 t3 : T} {ts : List T} {e a b c tg iter : Expr} {es rest : List Expr} {pos p p2 : Pos} {i j : Nat} {d d1 d2 d3 : D} {ds : List D} {m : M} {b1 b2 k : Bool} {st : Stmt} {sts body els : List Stmt} {o o' : O}
theorem ee_wk (h : EE X C Γ Ts e Γ1 t) (w : wkL Γ2 Γ1) : EE X C Γ Ts e Γ2 t := h.wk fun σ H Q ⟨vs, h, q⟩ => ⟨vs, h, fun v H' h' => q v H' (h'.wk w)⟩
/-! ### blocks -/
theorem ss_nil (w : wkL Γ' Γ) : SS X C Hs Γ [] (.nx Γ') := pss_nil.wk fun σ H D ⟨⟨hs, h⟩, q⟩ => q σ hs H (h.wk w)
theorem ss_cons (h1 : S1 X C Hs Γ st (.nx Γ1)) (h2 : SS X C Hs Γ1 sts o) : SS X C Hs Γ (st :: sts) o := (pss_cons h1 h2).wk fun σ H D ⟨h, q⟩ => ⟨h, fun σ' hs H' h' => ⟨⟨hs, h'⟩, q⟩⟩
def O.isNx : O → Bool
  | .nx _ => true
  | _ => false
/-- behind it nothing of the block is reached -/
theorem ss_exit (h1 : S1 X C Hs Γ st o) (ho : o.isNx = false) : SS X C Hs Γ (st :: sts) o := (pss_cons h1 pss_never).wk fun σ H D ⟨h, q⟩ => ⟨h, by
  cases o with
  | nx Γ => cases ho
  | bk Γ => exact q
  | ct Γ => exact q
  | rt Γ m => exact q⟩
theorem ss_one (h1 : S1 X C Hs Γ st o) : SS X C Hs Γ [st] o := pss_one h1
/-! ### statements -/
theorem s_if (hc : ET X C Γ Hs c Γ1 k) (h1 : k = true → SS X C Hs Γ1 body o) (h2 : k = false → SS X C Hs Γ1 els o) : S1 X C Hs Γ (.If c body els pos) o := by
  cases k with
  | true => exact (ps_if hc (h1 rfl) pss_never).wk fun σ H D ⟨⟨hs, h⟩, q⟩ => ⟨hs, h, fun H1 h1 => ⟨⟨hs, h1⟩, q⟩⟩
  | false => exact (ps_if hc pss_never (h2 rfl)).wk fun σ H D ⟨⟨hs, h⟩, q⟩ => ⟨hs, h, fun H1 h1 => by
      show (if false = true then _ else _)
      rw [if_neg Bool.false_ne_true]
      exact ⟨⟨hs, h1⟩, q⟩⟩
theorem s_expr (h : EE X C Γ Hs e Γ1 t) (hs : swapsWith e none pos.line X.env = pure false := by rfl) : S1 X C Hs Γ (.Expr e pos) (.nx Γ1) := (ps_expr h hs).wk fun σ H D ⟨⟨hs, h⟩, q⟩ => ⟨hs, h, fun v H1 h1 => q σ hs H1 h1.pop⟩
theorem s_ret (h : EE X C Γ Hs e Γ1 (.own m)) (w : wkL Γ' Γ1) : S1 X C Hs Γ (.Return (some e) pos) (.rt Γ' m) := (ps_ret h).wk fun σ H D ⟨⟨hs, h⟩, q⟩ => ⟨hs, h, fun v H1 h1 => q σ hs v H1 (h1.wk w)⟩
theorem s_set (i : Nat) {x : Str} {pos' : Pos} (hN : X.N.Nodup) (hi : X.N[i]? = some x) (hx : Loc X.env.scope x) (hp : ∀ p ∈ C.pin, p.1 ≠ i) (h : EE X C Γ Hs e Γ1 (.own m)) (hf : Free i Hs)
    (hs : swapsWith e (some (.Name x pos')) pos.line X.env = pure false := by rfl) (hn : X.fn x = true ∨ X.env.scope.names.lookup x = some .local := by first | exact .inl rfl | exact .inr rfl) :
    S1 X C Hs Γ (.Assign [.Name x pos'] e pos) (.nx (Γ1.set i (some m))) := (ps_set hN hi hx h hs hn).wk fun σ H D ⟨⟨hs, h⟩, q⟩ => ⟨hs, h, fun v H1 h1 => q _ hs H1 (h1.set hp hf)⟩

/-! ### targets -/
def Agree (J : List Nat) (σ σ' : L2.St) : Prop := σ'.length = σ.length ∧ ∀ i, i ∉ J → σ'[i]? = σ[i]?
theorem Agree.refl {J : List Nat} {σ : L2.St} : Agree J σ σ := ⟨rfl, fun _ _ => rfl⟩
theorem Agree.trans {J : List Nat} {σ σ1 σ2 : L2.St} (a : Agree J σ σ1) (b : Agree J σ1 σ2) : Agree J σ σ2 := ⟨b.1.trans a.1, fun i h => (b.2 i h).trans (a.2 i h)⟩
def gr (C : Cn) (Γ : Ctx) (Hs : List T) (d : D) (Γ' : Ctx) (J : List Nat) : TG := fun v σ H Q => ∃ hs, As C Γ Hs σ hs H ∧ rD C.K d v H ∧ ∀ σ', Agree J σ σ' → As C Γ' Hs σ' hs H → Q σ' H
abbrev GT (X : Cx) (C : Cn) (Hs : List T) (Γ : Ctx) (tg : Expr) (d : D) (Γ' : Ctx) (J : List Nat) : Prop := PG X tg (gr C Γ Hs d Γ' J)
def grs (C : Cn) (Γ : Ctx) (Hs : List T) (ds : List D) (Γ' : Ctx) (J : List Nat) : TGs := fun vs σ H Q => ∃ hs, As C Γ Hs σ hs H ∧ rDs C.K ds vs H ∧ ∀ σ', Agree J σ σ' → As C Γ' Hs σ' hs H → Q σ' H
abbrev GTs (X : Cx) (C : Cn) (Hs : List T) (Γ : Ctx) (tgs : List Expr) (ds : List D) (Γ' : Ctx) (J : List Nat) : Prop := PGs X tgs (grs C Γ Hs ds Γ' J)
theorem _root_.L2.PG.wk {X : Cx} {e : Expr} {t t' : TG} (h : PG X e t) (w : ∀ v σ H Q, t' v σ H Q → t v σ H Q) : PG X e t' := ⟨fun pins s σ H x u Q I r q => h.run pins s σ H x u Q I r (w _ _ _ _ q)⟩
theorem _root_.L2.PGs.wk {X : Cx} {e : List Expr} {t t' : TGs} (h : PGs X e t) (w : ∀ v σ H Q, t' v σ H Q → t v σ H Q) : PGs X e t' := ⟨fun pins s σ H x u Q I r q => h.run pins s σ H x u Q I r (w _ _ _ _ q)⟩
theorem gt_name (i : Nat) {x : Str} {J : List Nat} (hN : X.N.Nodup) (hi : X.N[i]? = some x) (hx : Loc X.env.scope x) (hp : ∀ p ∈ C.pin, p.1 ≠ i) (hf : Free i Hs) (hJ : i ∈ J) (hn : X.fn x = true ∨ X.env.scope.names.lookup x = some .local := by first | exact .inl rfl | exact .inr rfl) :
    GT X C Hs Γ (.Name x pos) d (Γ.set i (some (.im d))) J := (pg_name hN hi hx hn).wk fun v σ H Q ⟨hs, h, r, q⟩ => q _ ⟨by simp, fun k hk => List.getElem?_set_ne (fun e => hk (by rw [← e]; exact hJ))⟩ (h.setIm r hp hf)
theorem gts_nil {J : List Nat} : GTs X C Hs Γ [] [] Γ J := pgs_nil.wk fun v σ H Q ⟨hs, h, r, q⟩ => by
  unfold rDs at r
  exact ⟨r, q σ Agree.refl h⟩
theorem gts_cons {J : List Nat} (h1 : GT X C Hs Γ e d Γ1 J) (h2 : GTs X C Hs Γ1 es ds Γ2 J) (hs : (assignEach (e :: es) X.env).map (·.2) = assign e X.env :: (assignEach es X.env).map (·.2) := by rfl) : GTs X C Hs Γ (e :: es) (d :: ds) Γ2 J := (pgs_cons h1 h2 hs).wk fun v σ H Q ⟨hs, h, r, q⟩ => by
  unfold rDs at r
  obtain ⟨w, ws, e1, r1, r2⟩ := r
  exact ⟨w, ws, e1, hs, h, r1, fun σ1 a1 h1 => ⟨hs, h1, r2, fun σ2 a2 h2 => q σ2 (a1.trans a2) h2⟩⟩
theorem gt_tup {J : List Nat} {kk : Nat} (hc : X.calm = true) (h : GTs X C Hs Γ es ds Γ1 J) (hK : X.K = C.K := by rfl) (hn : (assignEach es X.env).length = ds.length := by rfl) (hst : (assignEach es X.env).findIdx? (·.1) = none := by rfl) : GT X C Hs Γ (.Tuple es kk pos) (.tup ds) Γ1 J := (pg_tup hc h hn hst).wk fun v σ H Q ⟨hs, h, r, q⟩ => by
  unfold rD at r
  obtain ⟨a, vs, e1, r1, r2⟩ := r
  exact ⟨a, vs, e1, by rw [hK]; exact r1.t, r2.len, hs, h, r2, q⟩
/-! ### families of readings -/
theorem _root_.L2.PT.ex {X : Cx} {ι : Type} {e : Expr} {t : ι → TT} {P : ι → Prop} (h : ∀ i, P i → PT X e (t i)) : PT X e (fun σ H Q => ∃ i, P i ∧ t i σ H Q) := ⟨fun pins s σ H Q I ⟨i, p, q⟩ => (h i p).run pins s σ H Q I q⟩
theorem _root_.L2.PE.ex {X : Cx} {ι : Type} {e : Expr} {t : ι → TE} {P : ι → Prop} (h : ∀ i, P i → PE X e (t i)) : PE X e (fun σ H Q => ∃ i, P i ∧ t i σ H Q) := ⟨fun pins s σ H Q I ⟨i, p, q⟩ => (h i p).run pins s σ H Q I q⟩
theorem _root_.L2.PTs.ex {X : Cx} {ι : Type} {e : List Expr} {t : ι → TT} {P : ι → Prop} (h : ∀ i, P i → PTs X e (t i)) : PTs X e (fun σ H Q => ∃ i, P i ∧ t i σ H Q) := ⟨fun pins s σ H Q I ⟨i, p, q⟩ => (h i p).run pins s σ H Q I q⟩
theorem _root_.L2.PTs.wk {X : Cx} {e : List Expr} {t t' : TT} (h : PTs X e t) (w : ∀ σ H Q, t' σ H Q → t σ H Q) : PTs X e t' := ⟨fun pins s σ H Q I q => h.run pins s σ H Q I (w _ _ _ q)⟩
theorem _root_.L2.PSs.ex {X : Cx} {ι : Type} {e : List Stmt} {t : ι → TS} {P : ι → Prop} (h : ∀ i, P i → PSs X e (t i)) : PSs X e (fun D σ H => ∃ i, P i ∧ t i D σ H) := ⟨fun pins s σ H D I ⟨i, p, q⟩ => (h i p).run pins s σ H D I q⟩
theorem _root_.L2.PG.ex {X : Cx} {ι : Type} {e : Expr} {t : ι → TG} {P : ι → Prop} (h : ∀ i, P i → PG X e (t i)) : PG X e (fun v σ H Q => ∃ i, P i ∧ t i v σ H Q) := ⟨fun pins s σ H x u Q I r ⟨i, p, q⟩ => (h i p).run pins s σ H x u Q I r q⟩
theorem _root_.L2.PI.wk {X : Cx} {tg iter : Expr} {t t' : TI} (h : PI X tg iter t) (w : ∀ σ H Q, t' σ H Q → t σ H Q) : PI X tg iter t' := ⟨fun pins s σ H Q I q => h.run pins s σ H Q I (w _ _ _ q)⟩
end

/-! ### loops over plain data: what they come to -/
inductive Out (S R : Type) where
  | nx (s : S) | bk (s : S) | ct (s : S) | rt (r : R)
def forO {S R α : Type} (f : S → α → Option (Out S R)) : S → List α → Option (Out S R)
  | s, [] => some (.nx s)
  | s, x :: xs => match f s x with
    | none => none
    | some (.nx s') => forO f s' xs
    | some (.ct s') => forO f s' xs
    | some (.bk s') => some (.nx s')
    | some (.rt r) => some (.rt r)
def forS {S α : Type} (f : S → α → Option S) : S → List α → Option S
  | s, [] => some s
  | s, x :: xs => (f s x).bind fun s' => forS f s' xs
def whO {S R : Type} (c : S → Bool) (f : S → Option (Out S R)) : Nat → S → Option (Out S R)
  | 0, _ => none
  | n + 1, s => if c s = true then match f s with
    | none => none
    | some (.nx s') => whO c f n s'
    | some (.ct s') => whO c f n s'
    | some (.bk s') => some (.nx s')
    | some (.rt r) => some (.rt r)
    else some (.nx s)
def whS {S : Type} (c : S → Bool) (f : S → Option S) : Nat → S → Option S
  | 0, _ => none
  | n + 1, s => if c s = true then (f s).bind (whS c f n) else some s
def lcM {S α β : Type} (f : S → α → Option (S × Option β)) : S → List α → Option (S × List β)
  | s, [] => some (s, [])
  | s, x :: xs => (f s x).bind fun p => (lcM f p.1 xs).bind fun q => some (q.1, match p.2 with | some d => d :: q.2 | none => q.2)
theorem forS_O {S α R : Type} {f : S → α → Option S} : ∀ {xs : List α} {s s' : S}, forS f s xs = some s' → forO (R := R) (fun s x => (f s x).map Out.nx) s xs = some (.nx s')
  | [], s, s', h => by cases h; rfl
  | x :: xs, s, s', h => by
    unfold forS at h
    unfold forO
    cases e : f s x with
    | none => rw [e] at h; cases h
    | some s1 =>
      rw [e] at h
      exact forS_O h
theorem whS_O {S R : Type} {c : S → Bool} {f : S → Option S} : ∀ {n : Nat} {s s' : S}, whS c f n s = some s' → whO (R := R) c (fun s => (f s).map Out.nx) n s = some (.nx s')
  | 0, s, s', h => by cases h
  | n + 1, s, s', h => by
    unfold whS at h
    unfold whO
    by_cases hc : c s = true
    · rw [if_pos hc] at h ⊢
      cases e : f s with
      | none => rw [e] at h; cases h
      | some s1 =>
        rw [e] at h
        exact whS_O h
    · rw [if_neg hc] at h ⊢
      cases h; rfl
/-- an end as contexts tell it -/
def Out.o {S R : Type} (Γs : S → Ctx) (ρ : R → Ctx × M) : Out S R → O
  | .nx s => .nx (Γs s)
  | .bk s => .bk (Γs s)
  | .ct s => .ct (Γs s)
  | .rt r => .rt (ρ r).1 (ρ r).2

section
variable {X : Cx} {C : Cn} {Γ Γ1 Γ2 Γ3 Γ' : Ctx} {Ts Hs : List T} {e a b c tg iter : Expr} {pos p : Pos} {i j : Nat} {d : D} {ds : List D} {m : M} {k : Bool} {st : Stmt} {sts body els : List Stmt} {o o' : O} {S R α : Type} {Γs : S → Ctx} {ρ : R → Ctx × M} {s0 s1 : S}
theorem s_whileO {cb : S → Bool} {f : S → Option (Out S R)} {out : Out S R} {n : Nat} (hc : ∀ s, ET X C (Γs s) Hs c (Γs s) (cb s)) (hb : ∀ s out, cb s = true → f s = some out → SS X C Hs (Γs s) body (out.o Γs ρ)) (h : whO cb f n s0 = some out)
    (hp : PassesOwn (model X.prog X.w) X.A X.env X.xe := by exact PassesOwn.never) : S1 X C Hs (Γs s0) (.While c body [] pos) (out.o Γs ρ) := by
  have ps := ps_while (pos := pos) hp (PT.ex (P := fun _ => True) fun s _ => hc s) (PSs.ex (ι := S × Out S R) (P := fun q => cb q.1 = true ∧ f q.1 = some q.2) fun q hq => hb q.1 q.2 hq.1 hq.2)
  refine ps.wk fun σ H D ⟨⟨hs, h0⟩, q⟩ => ?_
  refine ⟨fun n σ H => ∃ s hs, As C (Γs s) Hs σ hs H ∧ whO cb f n s = some out, ⟨n, s0, hs, h0, h⟩, ?_⟩
  rintro n σ H ⟨s, hs, hA, hw⟩
  refine ⟨s, trivial, hs, hA, fun H1 h1 => ?_⟩
  cases n with
  | zero => cases hw
  | succ n =>
    unfold whO at hw
    cases hk : cb s with
    | false =>
      rw [hk, if_neg Bool.false_ne_true] at hw
      cases hw
      show (if false = true then _ else _)
      rw [if_neg Bool.false_ne_true]
      exact q σ hs H1 h1
    | true =>
      rw [hk, if_pos rfl] at hw
      show (if true = true then _ else _)
      rw [if_pos rfl]
      cases hf : f s with
      | none => rw [hf] at hw; cases hw
      | some out1 =>
        rw [hf] at hw
        refine ⟨fun σ' H' => ∃ s hs, As C (Γs s) Hs σ' hs H' ∧ whO cb f n s = some out, fun σ' H' z => ⟨n, Nat.lt_succ_self n, z⟩, (s, out1), ⟨hk, hf⟩, ⟨hs, h1⟩, ?_⟩
        cases out1 with
        | nx s' => exact fun σ' hs' H' h' => ⟨s', hs', h', hw⟩
        | ct s' => exact fun σ' hs' H' h' => ⟨s', hs', h', hw⟩
        | bk s' => cases hw; exact q
        | rt r => cases hw; exact q
theorem s_while {cb : S → Bool} {f : S → Option S} {n : Nat} (hc : ∀ s, ET X C (Γs s) Hs c (Γs s) (cb s)) (hb : ∀ s s', cb s = true → f s = some s' → SS X C Hs (Γs s) body (.nx (Γs s'))) (h : whS cb f n s0 = some s1)
    (hp : PassesOwn (model X.prog X.w) X.A X.env X.xe := by exact PassesOwn.never) : S1 X C Hs (Γs s0) (.While c body [] pos) (.nx (Γs s1)) :=
  s_whileO (R := Unit) (ρ := fun _ => ([], .im .non)) (out := .nx s1) hc (fun s out hk hf => by
    cases e : f s with
    | none => rw [e] at hf; cases hf
    | some s' => rw [e] at hf; cases hf; exact hb s s' hk e) (whS_O h) hp

/-! ### what is walked -/
def ir (C : Cn) (Γ : Ctx) (Hs : List T) (Γ1 : Ctx) (hx : V → T) (cond : Ctx → Prop) (ds : List D) : TI := fun σ H R => ∃ hs, As C Γ Hs σ hs H ∧
  ∀ v J H1, As C Γ1 (Hs ++ [hx v]) σ (hs ++ [v]) H1 → (∃ G Y, Walk J ds.length G Y ∧ (∀ Γ' σ' hs' H', cond Γ' → As C Γ' (Hs ++ [hx v]) σ' (hs' ++ [v]) H' → G H') ∧
    ∀ i H' x H'', i < ds.length → G H' → Y i H' x H'' → Ext H' H'' ∧ ∃ d, ds[i]? = some d ∧ rD C.K d x H'') → R J H1
abbrev IT (X : Cx) (C : Cn) (Hs : List T) (tg iter : Expr) (Γ Γ1 : Ctx) (hx : V → T) (cond : Ctx → Prop) (ds : List D) : Prop := PI X tg iter (ir C Γ Hs Γ1 hx cond ds)
/-- the value that is walked is told by its hidden place -/
def Fix (hx : V → T) : Prop := ∀ (K : PySem.W.Frag) (σ : L2.St) (v w : V) (H : Hp) (F : FS), rT K σ (hx v) w H F → w = v
theorem Fix.hid {m : M} : Fix (fun v => .hid m v) := fun K σ v w H F h => h.1
theorem Fix.hip {P : V → Hp → Prop} {s : ∀ v H H', TF H H' → P v H → P v H'} : Fix (fun v => .hip v (P v) (s v)) := fun K σ v w H F h => h.1
theorem Fix.hal {j : Nat} : Fix (fun v => .hal j v) := fun K σ v w H F h => h.1
theorem As.fix {hx : V → T} {v : V} {σ : L2.St} {us : List V} {H : Hp} (f : Fix hx) (h : As C Γ (Hs ++ [hx v]) σ us H) : ∃ vs, us = vs ++ [v] := by
  obtain ⟨vs, u, rfl⟩ := h.lnx
  obtain ⟨F, r, _⟩ := h.top
  exact ⟨vs, by rw [f _ _ _ _ _ _ r]⟩
theorem s_forO {f : S → α → Option (Out S R)} {enc : α → D} {xs : List α} {out : Out S R} {hx : V → T} {cond : Ctx → Prop} {Γt : S → α → Ctx} {J : List Nat} (hcm : X.calm = true) (fx : Fix hx)
    (it : IT X C Hs tg iter Γ (Γs s0) hx cond (xs.map enc)) (hcond : ∀ s, cond (Γs s)) (gt : ∀ v s x, GT X C (Hs ++ [hx v]) (Γs s) tg (enc x) (Γt s x) J)
    (hb : ∀ v s x out, f s x = some out → SS X C (Hs ++ [hx v]) (Γt s x) body (out.o Γs ρ)) (h : forO f s0 xs = some out)
    (hf : ∀ x, foldedSetIterable iter X.env x = pure x := by intro _; rfl) (hp : PassesOwn (model X.prog X.w) X.A X.env X.xe := by exact PassesOwn.never) : S1 X C Hs Γ (.For tg iter body [] pos) (out.o Γs ρ) := by
  have ps := ps_for (pos := pos) hp hcm it (PG.ex (ι := V × S × α) (P := fun _ => True) fun q _ => gt q.1 q.2.1 q.2.2) (PSs.ex (ι := V × S × α × Out S R) (P := fun q => f q.2.1 q.2.2.1 = some q.2.2.2) fun q hq => hb q.1 q.2.1 q.2.2.1 q.2.2.2 hq) hf
  refine ps.wk fun σ H D ⟨⟨hs1, h0⟩, q⟩ => ⟨hs1, h0, fun v Ji H1 hA ⟨G, Y, w, g1, g2⟩ => ?_⟩
  rw [List.length_map] at w g2
  -- the ends, told without what was hidden
  have qx : ∀ σ hs s H, out = .nx s → As C (Γs s) (Hs ++ [hx v]) σ hs H → D.nx σ H := fun σ hs s H e h' => by
    subst e
    obtain ⟨vs, rfl⟩ := As.fix fx h'
    exact q σ vs H h'.pop
  refine for_it (D := D) (g := fun v σ H Q => ∃ q : V × S × α, True ∧ gr C (Γs q.2.1) (Hs ++ [hx q.1]) (enc q.2.2) (Γt q.2.1 q.2.2) J v σ H Q)
    (tb := fun D σ H => ∃ q : V × S × α × Out S R, f q.2.1 q.2.2.1 = some q.2.2.2 ∧ sr C (Hs ++ [hx q.1]) (Γt q.2.1 q.2.2.1) (q.2.2.2.o Γs ρ) D σ H) w (fun i σ H => ∃ s hs, As C (Γs s) (Hs ++ [hx v]) σ (hs ++ [v]) H ∧ forO f s (xs.drop i) = some out) ⟨s0, hs1, hA, by simpa using h⟩ (fun i σ H _ ⟨s, hs, h', _⟩ => g1 _ σ hs H (hcond s) h') (fun i x σ H H' hi ⟨s, hs, h', hw⟩ y => ?_) (fun σ H ⟨s, hs, h', hw⟩ => ?_)
  · obtain ⟨ex, d, hd, rd⟩ := g2 i H x H' hi (g1 _ σ hs H (hcond s) h') y
    rw [List.getElem?_map] at hd
    have hxi : xs[i]? = some xs[i] := List.getElem?_eq_getElem hi
    rw [hxi] at hd
    cases hd
    have hdr : xs.drop i = xs[i] :: xs.drop (i + 1) := List.drop_eq_getElem_cons hi
    rw [hdr] at hw
    refine ⟨(v, s, xs[i]), trivial, _, h'.ext ex, rd, fun σ2 ag h2 => ?_⟩
    cases hfx : f s xs[i] with
    | none => unfold forO at hw; rw [hfx] at hw; cases hw
    | some out1 =>
      unfold forO at hw
      rw [hfx] at hw
      refine ⟨(v, s, xs[i], out1), hfx, ⟨_, h2⟩, ?_⟩
      cases out1 with
      | nx s' =>
        intro σ3 hs3 H3 h3
        obtain ⟨vs, rfl⟩ := As.fix fx h3
        exact ⟨s', vs, h3, hw⟩
      | ct s' =>
        intro σ3 hs3 H3 h3
        obtain ⟨vs, rfl⟩ := As.fix fx h3
        exact ⟨s', vs, h3, hw⟩
      | bk s' =>
        cases hw
        exact fun σ3 hs3 H3 h3 => qx σ3 hs3 s' H3 rfl h3
      | rt r =>
        cases hw
        intro σ3 hs3 v3 H3 h3
        · have h3' : As C (ρ r).1 ((Hs ++ [hx v]) ++ [.own (ρ r).2]) σ3 (hs3 ++ [v3]) H3 := h3
          obtain ⟨vs, rfl⟩ := As.fix fx h3'.pop
          exact q σ3 vs v3 H3 h3'.mid
  · rw [List.drop_length] at hw
    cases hw
    exact qx σ _ s H rfl h'
end
end RL

set_option maxHeartbeats 4000000
/-! RE1: enumerate over a tuple and over a text -/
namespace RL
open PySem L2
open PySem.AutoSeq1 (wpAny_loadPart')

/-- a new enumerate object over whatever begins so -/
theorem enum_make {v : Value} {o : Obj} {W : Heap → Prop} (B : Begins v o W) :
    Meets (Builtin.«enumerate.__new__» ⟨[.type "enumerate", v], []⟩) (fun _ R s => W s.heap ∧
      R (.ok (.ret (.ref (s.heap.push o).objs.size))) { s with heap := (s.heap.push o).push { cls := .type "enumerate", data := .fields #[.none, .bool false, .ref s.heap.objs.size, rawInt 0, .none, .none] } }) :=
  .of_wp fun P w A R s hh => by
    obtain ⟨hp, gs, dr, tk, os⟩ := s
    obtain ⟨hW, hR⟩ := hh
    have se := sub_enumerate
    have it : ∀ {A1 : Around} {E1 : Value → Shared → Prop} {Q1 : Value → Shared → Prop}, Q1 (.ref hp.objs.size) ⟨hp.push o, gs, dr, tk, os⟩ → wpAny (model P w) A1 (pyIter v) Q1 E1 ⟨hp, gs, dr, tk, os⟩ :=
      fun q => B.iter P w _ _ ⟨hp, gs, dr, tk, os⟩ _ hW q
    wp_walk using it
    refine wpAny_stack_any fun stk => wpAny_pure ?_
    split
    · rename_i c _ _ _ _ _
      cases (c == Value.type "enumerate")
      all_goals
        wp_walk using it
        exact ⟨_, rfl, hR⟩
    · wp_walk using it
      exact ⟨_, rfl, hR⟩
section
variable {P : Program} {w : World} {A : Around} {E : Value → Shared → Prop} {s : Shared}
theorem enum_call {v : Value} {o : Obj} {W : Heap → Prop} {Q : Value → Shared → Prop} (B : Begins v o W) (hW : W s.heap)
    (h : ∀ h', IsEnum h' (s.heap.objs.size + 1) s.heap.objs.size 0 .none → h'.get? s.heap.objs.size = some o → h'.objs.size = s.heap.objs.size + 2 →
      (∀ b u, s.heap.get? b = some u → h'.get? b = some u) → Q (.ref (s.heap.objs.size + 1)) { s with heap := h' }) :
    wpAny (model P w) A (call (.type "enumerate") [v]) Q E s := by
  refine callType_new F.called_enumerate (by decide) (F.typeCall_enumerate_1 _) (F.newCall_enumerate_1 _) (fun x => F.args_object_init_2 x _) F.entry_enumerate_new (enum_make B) ⟨hW, ?_⟩
  have e1 : (s.heap.push o).objs.size = s.heap.objs.size + 1 := Heap.size_push ..
  show _ ∧ _
  rw [e1]
  have e2 : IsEnum ((s.heap.push o).push { cls := .type "enumerate", data := .fields #[.none, .bool false, .ref s.heap.objs.size, rawInt 0, .none, .none] }) (s.heap.objs.size + 1) s.heap.objs.size 0 .none := by
    have z := Heap.get?_push_size (s.heap.push o) (o := { cls := .type "enumerate", data := .fields #[.none, .bool false, .ref s.heap.objs.size, rawInt 0, .none, .none] }) rfl
    rw [e1] at z
    exact z
  exact ⟨⟨_, e2, rfl⟩, h _ e2 (Heap.get?_push_of_some _ (Heap.get?_push_size _ B.free)) (by rw [Heap.size_push, e1]) fun b u z => Heap.get?_push_of_some _ (Heap.get?_push_of_some _ z)⟩
end

section
variable {P : Program} {w : World} {A : Around} {E : Value → Shared → Prop} {s : Shared}
theorem enum_endT {e it t : Addr} {j : Int} {i : Nat} {items : Array Value} {old : Value} {Q : Option Value → Shared → Prop} (hh : A.handled = none)
    (he : IsEnum s.heap e it j old) (hit : s.heap.IsTupleIter it t i) (hl : s.heap.IsTuple t items) (hx : items[i]? = none)
    (hQ : ∀ h', Heap.ExtBut it s.heap h' → Q none { s with heap := h' }) : wpAny (model P w) A (pyNext (.ref e)) Q E s := by
  have ty : s.TypeIs (.ref e) "enumerate" := ⟨_, he, rfl⟩
  unfold pyNext
  refine wpAny_bind (wpAny_attempt (wpAny_callSpecial?_slot (name := Str.ofString "__next__") ty F.slot_enumerate_next (wpAny_call_entry F.slot_enumerate_next ty F.entry_enumerate_next ?_ (F.args_enumerate_next_1 _))))
  show wpAny _ _ (field (.ref e) 2 >>= _) _ _ _
  refine wpAny_bind (wpAny_field he rfl (x := .ref it) rfl ?_)
  refine wpAny_bind (wpAny_nextOf_tuple_end hh hit hl hx fun h' x he' hx' => ?_)
  obtain ⟨o, ho, hc⟩ := hx'
  refine wpAny_bind (wpAny_isInstance (T := "StopIteration") (b := true) ⟨o, ho, hc⟩ isSubtype_stop ?_)
  exact wpAny_pure (hQ _ he')
end
/-- the items of the tuple at a, each in a new pair with its place -/
def Itet (K : PySem.W.Frag) (a : Addr) : It :=
  ⟨fun i H => ∃ (xs : List V) (x : V), SqT K H a xs ∧ xs[i]? = some x, fun i H v H' => ∃ q x o, v = .ref q ∧ H q = none ∧ o.dict = none ∧ H' = upd H q (.frz o (.tup [.int (i : Nat), x])) ∧ ∀ xs, SqT K H a xs → xs[i]? = some x, fun i H => ∃ xs : List V, SqT K H a xs ∧ xs.length ≤ i⟩
theorem turn_enumT {P : Program} {w : World} {K : PySem.W.Frag} {elts : List Expr} {kk : Nat} {tpos : Pos} (a e it : Addr) :
    Turn P w K (.Tuple elts kk tpos) (Itet K a) [e, it] e (fun i h => (∃ old, IsEnum h e it ((i : Nat) : Int) old) ∧ h.IsTupleIter it a i ∧ e ≠ it ∧ a ≠ it ∧ a ≠ e) := by
  constructor
  · simp
  · intro i h ⟨⟨old, he⟩, ⟨o, ho, hc, hd⟩, _⟩ b hb
    rcases List.mem_cons.mp hb with z | z
    · subst z
      exact ⟨_, he, fun v q => nomatch q⟩
    · have z := List.mem_singleton.mp z
      subst z
      exact ⟨o, ho, fun v q => by rw [hd] at q; cases q⟩
  · intro i h h' ⟨⟨old, he⟩, hi, ne⟩ k
    exact ⟨⟨old, k e (by simp) _ he⟩, hi.at fun o q => k it (by simp) o q, ne⟩
  · intro X hP hw hK hc i pins s σ H E I hf st hg
    subst hP hw hK
    obtain ⟨⟨old, he⟩, hit, hne, ha1, ha2⟩ := st
    obtain ⟨xs, x, hq, hx⟩ := hg
    obtain ⟨its, rv, p, hz⟩ := I.tuple hq
    have el : e < s.heap.objs.size := Heap.lt_size he
    have il : it < s.heap.objs.size := by obtain ⟨_, q, _⟩ := hit; exact Heap.lt_size q
    have hit2 := hit
    have pt : s.heap.IsTuple a its.toArray := p
    have hn : i < its.toArray.size := by
      rw [List.size_toArray, ← rv.length]
      exact (List.getElem?_eq_some_iff.mp hx).1
    have hef : e ∉ [it, a] := by simp; exact ⟨hne, fun z => ha2 z.symm⟩
    refine wpAny_pyNext_enum_itemD (Draws.tuple (A := X.A.in1) (I.ok.hd hc) it a ha1 its.toArray) he ⟨hit, pt⟩ hn hne hef fun y h' tk hy ho hst' hT hsz hk => ?_
    obtain ⟨hit', pt'⟩ := hst'
    obtain ⟨y', hy', ry⟩ := rv.get hx
    have yy : y = y' := by
      have q1 : its.toArray[i]? = some y := hy
      rw [List.getElem?_toArray] at q1
      rw [q1] at hy'
      exact Option.some.inj hy'
    subst yy
    refine ⟨_, rfl, wpAny_letOwnedTupleGo_enum (s := { s with heap := h', toks := tk + 1 }) ho fun h2 he2 sb => ?_⟩
    have hT2 : h2.get? s.heap.objs.size = some { cls := .type "tuple", data := .seq #[.int i tk, y] } := (sb.2 _ (Nat.ne_of_gt el)).trans hT
    have new : ObjOk X.prog X.w (upd H s.heap.objs.size (.frz { cls := .type "tuple", data := .seq #[.int i tk, y] } (.tup [.int (i : Nat), x]))) h2 s.heap.objs.size (.frz { cls := .type "tuple", data := .seq #[.int i tk, y] } (.tup [.int (i : Nat), x])) := by
      refine ⟨hT2, by show 2 ≤ sizeLine; decide, [.int i tk, y], .cons ⟨_, rfl⟩ (.cons ry .nil), ?_⟩
      exact ⟨_, hT2, rfl, _, rfl⟩
    have I1 : Inv X pins σ (upd H s.heap.objs.size (.frz { cls := .type "tuple", data := .seq #[.int i tk, y] } (.tup [.int (i : Nat), x]))) { s with heap := h2, toks := tk + 1 } := by
      refine I.turnedNew (ch := [e, it]) (fun b ob hb q => ?_) hf (Nat.le_refl _) new
      have n1 : b ≠ e := fun z => hb (by simp [z])
      have n2 : b ≠ it := fun z => hb (by simp [z])
      exact (sb.2 b n1).trans (hk b ob n1 n2 q)
    refine ⟨.ref s.heap.objs.size, _, I1, rfl, ⟨_, x, _, rfl, I.hok.fresh (Nat.le_refl _), rfl, rfl, fun ys hys => by rw [I.tuple_inj hys hq]; exact hx⟩, ⟨⟨y, ?_⟩, hit'.at fun o q => (sb.2 it (Ne.symm hne)).trans q, hne, ha1, ha2⟩, fun b hb => ?_⟩
    · have e1 : ((i + 1 : Nat) : Int) = (i : Int) + 1 := by omega
      rw [e1]
      exact he2
    · have lt : b < s.heap.objs.size := by
        rcases List.mem_cons.mp hb with z | z
        · rw [z]; exact el
        · rw [List.mem_singleton.mp z]; exact il
      rw [upd_ne (Nat.ne_of_lt lt)]
      exact (hf b hb).1
  · intro X hP hw hK hc i pins s σ H E I hf st hg
    subst hP hw hK
    obtain ⟨⟨old, he⟩, hit, hne, ha1, ha2⟩ := st
    obtain ⟨xs, hq, hx⟩ := hg
    obtain ⟨its, rv, p, hz⟩ := I.tuple hq
    have pt : s.heap.IsTuple a its.toArray := p
    obtain ⟨f0, f1, f2, f3, f4, f5⟩ := hf it (by simp)
    -- at its end: no item at place i
    refine enum_endT (I.ok.hd hc) he hit pt (by rw [List.getElem?_toArray]; exact List.getElem?_eq_none_iff.mpr (by rw [← rv.length]; exact hx)) fun h' eb => ⟨rfl, I.turned (t' := s.toks) (fun b o hb q => eb b o hb q) f0 f1 f3 f4 f5⟩
  · intro A i s Q E ⟨⟨_, he⟩, _⟩ h
    exact wpAny_pyIter_enum he h
/-! ### the same of lists -/
end RL

set_option maxHeartbeats 2000000
/-! RL7: lists, what loops walk, comprehensions, a def's body -/
namespace RL
open PySem L2

/-! ### enumerate(tuple) begins -/
def iEnumT (K : PySem.W.Frag) (ta : TA) : TI := fun σ H R => ta σ H fun vs H1 => ∃ a xs, vs = [.ref a] ∧ SqT K H1 a xs ∧ R (Itet K a) H1
theorem pi_enumT {X : Cx} {e : Expr} {ta : TA} {p pos tpos : Pos} {elts : List Expr} {kk : Nat} (hg : Gl X "enumerate") (hm : X.mg "enumerate" = none) (ha : PA X [e] ta) (hs : starEach [e] X.env = [(false, eval e X.env)] := by rfl) :
    PI X (.Tuple elts kk tpos) (.Call (.Name "enumerate" p) [e] [] pos) (iEnumT X.K ta) := by
  constructor
  intro pins s σ H R I h
  refine PyProof.Rows.Call_ (ld_blt I hg hm PyProof.Rows.boot_enumerate (PyProof.Rows.callWith_type1 (thn (ha.run pos pins s σ H _ I h) fun us s1 ⟨vs, H1, I1, r1, a, xs, ex, hq, q⟩ => ?_) hs rfl))
  subst ex
  obtain ⟨u, rfl, ru⟩ := Vals.one r1
  cases (show u = Value.ref a from ru)
  obtain ⟨its, rv, p', hz⟩ := I1.tuple hq
  have pt : s1.heap.IsTuple a its.toArray := p'
  have al : a < s1.heap.objs.size := p'.lt
  refine enum_call (begins_tuple a its.toArray) pt fun h' he hit hsz hk => wpAny_pyIter_enum he ?_
  have I2 : Inv X pins σ H1 { s1 with heap := h' } := I1.kept (t' := s1.toks) hk
  refine ⟨s1.heap.objs.size + 1, [s1.heap.objs.size + 1, s1.heap.objs.size], _, _, H1, rfl, I2, turn_enumT a (s1.heap.objs.size + 1) s1.heap.objs.size, ⟨⟨.none, he⟩, ⟨_, hit, rfl, rfl⟩, Nat.succ_ne_self _, Nat.ne_of_lt al, Nat.ne_of_lt (Nat.lt_succ_of_lt al)⟩, fun b hb => ?_, q⟩
  have hle : s1.heap.objs.size ≤ b := by
    rcases List.mem_cons.mp hb with z | z
    · rw [z]; exact Nat.le_succ _
    · rw [List.mem_singleton.mp z]; exact Nat.le_refl _
  exact I1.fpOk hle (I1.hok.fresh hle)

/-! ### lists of data -/
theorem rDs.get {K : PySem.W.Frag} {H : Hp} : ∀ {ds : List D} {us : List V} {i : Nat} {d : D}, rDs K ds us H → ds[i]? = some d → ∃ u, us[i]? = some u ∧ rD K d u H
  | [], us, i, d, h, e => by simp at e
  | d0 :: ds, us, i, d, h, e => by
    unfold rDs at h
    obtain ⟨w, ws, rfl, r, s⟩ := h
    cases i with
    | zero => simp at e; subst e; exact ⟨w, rfl, r⟩
    | succ i =>
      obtain ⟨u, h1, h2⟩ := rDs.get (i := i) s (by simpa using e)
      exact ⟨u, by simpa using h1, h2⟩
theorem rDs.get2 {K : PySem.W.Frag} {H : Hp} {ds : List D} {us : List V} {i : Nat} {u : V} (h : rDs K ds us H) (e : us[i]? = some u) : ∃ d, ds[i]? = some d ∧ rD K d u H := by
  have hl := h.len
  have hi : i < ds.length := by rw [← hl]; exact (List.getElem?_eq_some_iff.mp e).1
  obtain ⟨u', h1, h2⟩ := h.get (List.getElem?_eq_getElem hi)
  rw [e] at h1
  cases h1
  exact ⟨_, List.getElem?_eq_getElem hi, h2⟩
theorem rDs.app {K : PySem.W.Frag} {H : Hp} : ∀ {ds es : List D} {us ws : List V}, rDs K ds us H → rDs K es ws H → rDs K (ds ++ es) (us ++ ws) H
  | [], es, us, ws, h, g => by unfold rDs at h; subst h; exact g
  | d :: ds, es, us, ws, h, g => by
    unfold rDs at h
    obtain ⟨w, vs, rfl, r, s⟩ := h
    show rDs K (d :: (ds ++ es)) (w :: (vs ++ ws)) H
    unfold rDs
    exact ⟨w, _, rfl, r, s.app g⟩
theorem rDs.drop {K : PySem.W.Frag} {H : Hp} : ∀ {ds : List D} {us : List V} (n : Nat), rDs K ds us H → rDs K (ds.drop n) (us.drop n) H
  | ds, us, 0, h => h
  | [], us, n + 1, h => by unfold rDs at h; subst h; simp; unfold rDs; rfl
  | d :: ds, us, n + 1, h => by
    unfold rDs at h
    obtain ⟨w, vs, rfl, r, s⟩ := h
    exact s.drop n
theorem rDs.take {K : PySem.W.Frag} {H : Hp} : ∀ {ds : List D} {us : List V} (n : Nat), rDs K ds us H → rDs K (ds.take n) (us.take n) H
  | ds, us, 0, h => by simp; unfold rDs; rfl
  | [], us, n + 1, h => by unfold rDs at h; subst h; simp; unfold rDs; rfl
  | d :: ds, us, n + 1, h => by
    unfold rDs at h
    obtain ⟨w, vs, rfl, r, s⟩ := h
    show rDs K (d :: ds.take n) (w :: vs.take n) H
    unfold rDs
    exact ⟨w, _, rfl, r, s.take n⟩
theorem rDs.one {K : PySem.W.Frag} {H : Hp} {d : D} {v : V} (h : rD K d v H) : rDs K [d] [v] H := by
  unfold rDs
  exact ⟨v, [], rfl, h, by unfold rDs; rfl⟩
theorem rDs.at {K : PySem.W.Frag} {H : Hp} {ds : List D} {us : List V} {i : Int} {d : D} (h : rDs K ds us H) (e : atI ds i = some d) : ∃ u, atI us i = some u ∧ rD K d u H := by
  unfold atI at e ⊢
  rw [h.len]
  cases q : ixN ds.length i with
  | none => rw [q] at e; cases e
  | some j =>
    rw [q] at e
    exact h.get e
/-- the items of xs[lo:hi], of any kind -/
def cutL {α : Type} (xs : List α) (lo hi : Option Int) : List α := (xs.drop (HT.sIx xs.length 0 lo)).take (HT.sIx xs.length xs.length hi - HT.sIx xs.length 0 lo)
theorem rDs.cut {K : PySem.W.Frag} {H : Hp} {ds : List D} {us : List V} (lo hi : Option Int) (h : rDs K ds us H) : rDs K (cutL ds lo hi) (cutV us lo hi) H := by
  unfold cutL cutV
  rw [h.len]
  exact (h.drop _).take _
theorem cutL_map {α β : Type} (f : α → β) (xs : List α) (lo hi : Option Int) : cutL (xs.map f) lo hi = (cutL xs lo hi).map f := by
  unfold cutL
  rw [List.length_map, ← List.map_drop, List.map_take]

section
variable {X : Cx} {C : Cn} {Γ Γ1 Γ2 Γ3 Γ' : Ctx} {Ts Hs : List T} {t t1 t2 t3 : T} {ts : List T} {e a b c tg iter : Expr} {es rest : List Expr} {pos p p2 : Pos} {i j : Nat} {d d1 d2 d3 : D} {ds ds' : List D} {m : M} {b1 b2 k : Bool}
/-- a list of data: in a slot, on the stack, or one that never changes -/
inductive Src (Γ : Ctx) : T → List D → Prop where
  | al {j : Nat} {ds : List D} (h : Γ[j]? = some (some (.li ds))) : Src Γ (.al j) ds
  | own {ds : List D} : Src Γ (.own (.li ds)) ds
  | fz {ds : List D} : Src Γ (.im (.lst ds)) ds
  | alf {j : Nat} {ds : List D} (h : Γ[j]? = some (some (.im (.lst ds)))) : Src Γ (.al j) ds
/-- one that may change -/
inductive SrcS (Γ : Ctx) : T → List D → Prop where
  | al {j : Nat} {ds : List D} (h : Γ[j]? = some (some (.li ds))) : SrcS Γ (.al j) ds
  | own {ds : List D} : SrcS Γ (.own (.li ds)) ds
theorem As.srcS {σ : L2.St} {vs : List V} {v : V} {H : Hp} (h : As C Γ (Ts ++ [t]) σ (vs ++ [v]) H) (s : SrcS Γ t ds) : ∃ a us, v = .ref a ∧ H a = some (.lst us) ∧ rDs C.K ds us H := by
  cases s with
  | al hj =>
    obtain ⟨w, F, hw, r, _⟩ := h.slot hj
    obtain ⟨G, ⟨g, _⟩, _⟩ := h.top
    rw [hw] at g
    cases g
    unfold rM at r
    obtain ⟨a, us, e, hl, rd, _⟩ := r
    exact ⟨a, us, e, hl, rd⟩
  | own =>
    obtain ⟨F, r, _⟩ := h.top
    have r : rM C.K (.li ds) v H F := r
    unfold rM at r
    obtain ⟨a, us, e, hl, rd, _⟩ := r
    exact ⟨a, us, e, hl, rd⟩
theorem As.src {σ : L2.St} {vs : List V} {v : V} {H : Hp} (h : As C Γ (Ts ++ [t]) σ (vs ++ [v]) H) (s : Src Γ t ds) : ∃ a us, v = .ref a ∧ SqL C.K H a us ∧ rDs C.K ds us H := by
  cases s with
  | al hj =>
    obtain ⟨a, us, e, hl, rd⟩ := h.srcS (.al hj)
    exact ⟨a, us, e, SqL.of hl, rd⟩
  | own =>
    obtain ⟨a, us, e, hl, rd⟩ := h.srcS .own
    exact ⟨a, us, e, SqL.of hl, rd⟩
  | fz =>
    have r := h.topIm
    unfold rD at r
    obtain ⟨a, us, e, hl, rd⟩ := r
    exact ⟨a, us, e, hl.sq, rd⟩
  | alf hj =>
    obtain ⟨w, hw, r⟩ := h.slotIm hj
    obtain ⟨G, ⟨g, _⟩, _⟩ := h.top
    rw [hw] at g
    cases g
    unfold rD at r
    obtain ⟨a, us, e, hl, rd⟩ := r
    exact ⟨a, us, e, hl.sq, rd⟩
/-- the list in the slot j becomes another one -/
theorem As.lset {σ : L2.St} {vs : List V} {H : Hp} (h : As C Γ Ts σ vs H) (hj : Γ[j]? = some (some (.li ds))) : ∃ a us, σ[j]? = some (some (.ref a)) ∧ H a = some (.lst us) ∧ rDs C.K ds us H ∧
    ∀ us' ds', rDs C.K ds' us' H → As C (Γ.set j (some (.li ds'))) Ts σ vs (upd H a (.lst us')) := by
  obtain ⟨w, F, hw, r, q⟩ := h.slot hj
  unfold rM at r
  obtain ⟨a, us, e, hl, rd, hF⟩ := r
  subst e
  refine ⟨a, us, hw, hl, rd, fun us' ds' rd' => ?_⟩
  have mu : Mut (H a) := by rw [hl]; trivial
  have tf : TF H (upd H a (.lst us')) := TF.write mu
  refine q (.li ds') _ F tf (fun b nb _ => upd_ne fun z => nb ((hF b).2 z)) ?_ fun b hb => .inl hb
  unfold rM
  exact ⟨a, us', rfl, upd_same, rd'.tf tf, hF⟩
/-! #### places and parts of lists and tuples -/
theorem r2s_ixL {n : Int} (s : Src Γ t ds) (h : atI ds n = some d) (hK : X.K = C.K) : R2S C Γ Ts t (.im (.int n)) (rIxL X.K) Γ (.im d) := fun σ vs x y H hA Q q => by
  have hy := hA.topIm
  unfold rD at hy
  obtain ⟨a, us, e, hl, rd⟩ := hA.pop.src s
  obtain ⟨u, hu, ru⟩ := rd.at h
  exact ⟨a, us, n, u, e, hy, by rw [hK]; exact hl, hu, q u H (hA.pop.pop.pushIm Ext.refl ru)⟩
theorem ee_ixL {n : Int} (h1 : EE X C Γ Ts a Γ1 t) (h2 : EE X C Γ1 (Ts ++ [t]) b Γ2 (.im (.int n))) (s : Src Γ2 t ds) (h : atI ds n = some d) (hs : PlainIx b := by exact fun _ _ => rfl) (hK : X.K = C.K := by rfl) : EE X C Γ Ts (.Subscript a b pos) Γ2 (.im d) := ee_ix ix_list hs h1 h2 (r2s_ixL s h hK)
theorem ee_ixT {n : Int} (h1 : EE X C Γ Ts a Γ1 (.im (.tup ds))) (h2 : EE X C Γ1 (Ts ++ [.im (.tup ds)]) b Γ2 (.im (.int n))) (h : atI ds n = some d) (hs : PlainIx b := by exact fun _ _ => rfl) (hK : X.K = C.K := by rfl) : EE X C Γ Ts (.Subscript a b pos) Γ2 (.im d) := ee_ix ix_tup hs h1 h2 (r2s_im fun x y H hx hy Q q => by
  unfold rD at hx hy
  obtain ⟨a, us, e, hl, rd⟩ := hx
  obtain ⟨u, hu, ru⟩ := rd.at h
  exact ⟨a, us, n, u, e, hy, by rw [hK]; exact hl.t, hu, q u ru⟩)
/-- a part of a slice -/
def por (C : Cn) (Γ : Ctx) (Ts : List T) (Γ' : Ctx) (o : Option Int) : TO := fun σ H Q => ∃ vs, As C Γ Ts σ vs H ∧ ∀ H', As C Γ' Ts σ vs H' → Q o H'
abbrev EP (X : Cx) (C : Cn) (Γ : Ctx) (Ts : List T) (e : Option Expr) (Γ' : Ctx) (o : Option Int) : Prop := PO X e (por C Γ Ts Γ' o)
theorem _root_.L2.PO.wk {X : Cx} {e : Option Expr} {t t' : TO} (h : PO X e t) (w : ∀ σ H Q, t' σ H Q → t σ H Q) : PO X e t' := ⟨fun pins s σ H Q I q => h.run pins s σ H Q I (w _ _ _ q)⟩
theorem ep_none : EP X C Γ Ts none Γ none := po_none.wk fun σ H Q ⟨vs, h, q⟩ => q H h
theorem ep_some {n : Int} (h : EE X C Γ Ts e Γ1 (.im (.int n))) : EP X C Γ Ts (some e) Γ1 (some n) := (po_some h).wk fun σ H Q ⟨vs, h, q⟩ => ⟨vs, h, fun v H' h' => by
  have e := h'.topIm
  unfold rD at e
  exact ⟨n, e, q H' h'.pop⟩⟩
theorem ee_slL {lo hi : Option Expr} {l u : Option Int} (h1 : EE X C Γ Ts a Γ1 t) (h2 : EP X C Γ1 (Ts ++ [t]) lo Γ2 l) (h3 : EP X C Γ2 (Ts ++ [t]) hi Γ3 u) (s : Src Γ3 t ds) (hK : X.K = C.K := by rfl) : EE X C Γ Ts (.Subscript a (.Slice lo hi none p2) pos) Γ3 (.own (.li (cutL ds l u))) :=
  (pe_slice sl_list h1 h2 h3).wk fun σ H Q ⟨vs, h, q⟩ => ⟨vs, h, fun v H1 h1 => ⟨vs ++ [v], h1, fun H2 h2 => ⟨vs ++ [v], h2, fun H3 h3 => by
    obtain ⟨a, us, e, hl, rd⟩ := h3.src s
    refine ⟨a, us, e, by rw [hK]; exact hl, fun p hp => q _ _ (h3.pop.push (Ext.new hp) (t := .own (.li (cutL ds l u))) (F := fun x => x = p) ?_ (fun x e => by rw [e]; exact hp) fun x e => by rw [e, upd_same]; trivial)⟩
    show rM _ _ _ _ _
    unfold rM
    exact ⟨p, _, rfl, upd_same, (rd.cut l u).tf (Ext.new hp).tf, fun _ => Iff.rfl⟩⟩⟩⟩
/-! #### methods of lists in slots -/
theorem tyV_lst {K : PySem.W.Frag} {a : Addr} {us : List V} {H : Hp} (h : H a = some (.lst us)) : tyV K "list" (.ref a) H := .inl ⟨rfl, us, SqL.of h⟩
theorem ee_append {nm : Expr} {apos cpos : Pos} (j : Nat) (hn : PE X nm (tVar j)) (hj : Γ[j]? = some (some (.li ds'))) (h1 : EE X C Γ (Ts ++ [.al j]) e Γ1 (.im d)) (hj1 : Γ1[j]? = some (some (.li ds))) (hl : ds.length < sizeLine)
    (hbase : attributeBase nm "append" X.env (eval nm X.env) = eval nm X.env := by rfl)
    (hfew : ((backTo cpos (starEach [e] X.env)).all (fun x => !x.1) && (backToKw cpos (keywordEach [] X.env)).all (fun x => x.1.isSome)
      && decide ([e].length + ([] : List Keyword).length + (if ([] : List Keyword).isEmpty then 0 else 1) < 30)) = true := by rfl)
    (hline : (apos.endLine == cpos.line) = true := by rfl) (hs : starEach [e] X.env = (false, eval e X.env) :: starEach [] X.env := by rfl) (hplain : (backTo cpos (starEach [] X.env)).any (·.1) = false := by rfl) :
    EE X C Γ Ts (.Call (.Attribute nm "append" apos) [e] [] cpos) (Γ1.set j (some (.li (ds ++ [d])))) (.im .non) := by
  refine (pe_bm PySem.F.plainAttrs_list PySem.F.slot_list_append PySem.F.type_list_append mt_append (ee_al (C := C) (Γ := Γ) (Ts := Ts) j hn hj) (ea_cons h1 ea_nil hs) hbase hfew hline hs hplain).wk fun σ H Q ⟨vs, h, q⟩ => ⟨vs, h, fun v H1 h1 => ?_⟩
  obtain ⟨a0, us0, e0, hl0, _⟩ := h1.srcS (.al hj)
  subst e0
  refine ⟨tyV_lst hl0, vs ++ [.ref a0], h1, fun us H2 hlen h2 => ?_⟩
  obtain ⟨u, rfl⟩ : ∃ u, us = [u] := List.length_eq_one_iff.mp hlen
  have rd := h2.topIm
  have h3 := h2.pop
  obtain ⟨a1, us1, e1, hl1, rd1⟩ := h3.srcS (.al hj1)
  cases e1
  obtain ⟨a2, us2, hσ, hl2, rd2, put⟩ := h3.pop.lset hj1
  have ea : a2 = a0 := by
    obtain ⟨F, ⟨g, _⟩, _⟩ := h3.top
    rw [hσ] at g
    injection g with g; injection g with g; injection g
  subst ea
  rw [hl1] at hl2
  cases hl2
  exact ⟨a2, us1, u, rfl, rfl, hl1, by rw [rd1.len]; exact hl, q _ _ ((put _ _ (rd1.app (.one rd))).pushIm Ext.refl (by unfold rD; rfl))⟩
theorem ee_pop {nm : Expr} {apos cpos : Pos} (j : Nat) (hn : PE X nm (tVar j)) (hj : Γ[j]? = some (some (.li ds))) (hd : ds.getLast? = some d)
    (hbase : attributeBase nm "pop" X.env (eval nm X.env) = eval nm X.env := by rfl) (hline : (apos.endLine == cpos.line) = true := by rfl) :
    EE X C Γ Ts (.Call (.Attribute nm "pop" apos) [] [] cpos) (Γ.set j (some (.li ds.dropLast))) (.im d) := by
  refine (pe_bm0 PySem.F.plainAttrs_list PySem.F.slot_list_pop PySem.F.type_list_pop mt_pop (ee_al (C := C) (Γ := Γ) (Ts := Ts) j hn hj) hbase hline).wk fun σ H Q ⟨vs, h, q⟩ => ⟨vs, h, fun v H1 h1 => ?_⟩
  obtain ⟨a0, us0, e0, hl0, rd0⟩ := h1.srcS (.al hj)
  subst e0
  obtain ⟨a2, us2, hσ, hl2, rd2, put⟩ := h1.pop.lset hj
  have ea : a2 = a0 := by
    obtain ⟨F, ⟨g, _⟩, _⟩ := h1.top
    rw [hσ] at g
    injection g with g; injection g with g; injection g
  subst ea
  rw [hl0] at hl2
  cases hl2
  have hd' : ds[ds.length - 1]? = some d := by rw [← List.getLast?_eq_getElem?]; exact hd
  obtain ⟨u, hu, ru⟩ := rd0.get hd'
  have rdl : rDs C.K ds.dropLast us0.dropLast H1 := by
    rw [List.dropLast_eq_take, List.dropLast_eq_take, rd0.len]
    exact rd0.take _
  refine ⟨tyV_lst hl0, a2, us0, u, rfl, rfl, hl0, by rw [rd0.len]; exact hu, q _ _ ((put _ _ rdl).pushIm Ext.refl (ru.tf (TF.write ?_)))⟩
  rw [hl0]
  trivial
/-! #### tuple(..), len(..) of lists -/
theorem ee_tupOf {nm : Pos} (hm : X.mg "tuple" = none) (h : EE X C Γ Ts e Γ1 t) (s : Src Γ1 t ds) (hg : Gl X "tuple" := by rfl) (hK : X.K = C.K := by rfl) (he : starEach [e] X.env = (false, eval e X.env) :: starEach [] X.env := by rfl) (hpl : (backTo pos (starEach [] X.env)).any (·.1) = false := by rfl) : EE X C Γ Ts (.Call (.Name "tuple" nm) [e] [] pos) Γ1 (.im (.tup ds)) :=
  cb_wk (ts := [t]) (fun σ vs us H hl h Q q => by
    obtain ⟨u, rfl⟩ : ∃ u, us = [u] := List.length_eq_one_iff.mp hl
    obtain ⟨a, ws, e1, hw, rd⟩ := h.src s
    subst e1
    refine ⟨a, ws, rfl, .inl ⟨by rw [hK]; exact hw, fun p o hp ho => q _ _ (h.pop.pushIm (Ext.new hp) ?_)⟩⟩
    unfold rD
    exact ⟨p, ws, rfl, SqN.new upd_same ho, rd.tf (Ext.new hp).tf⟩) (pe_callTy call_tuple_ofN hg hm (by decide +kernel) (ea_cons h ea_nil he) (by decide) (by decide) he hpl)
theorem ee_lenL {nm : Pos} (hm : X.mg "len" = none) (h : EE X C Γ Ts e Γ1 t) (s : Src Γ1 t ds) (hg : Gl X "len" := by rfl) (hK : X.K = C.K := by rfl) (he : starEach [e] X.env = (false, eval e X.env) :: starEach [] X.env := by rfl) (hpl : (backTo pos (starEach [] X.env)).any (·.1) = false := by rfl) : EE X C Γ Ts (.Call (.Name "len" nm) [e] [] pos) Γ1 (.im (.int ds.length)) :=
  cb_wk (ts := [t]) (fun σ vs us H hl h Q q => by
    obtain ⟨u, rfl⟩ : ∃ u, us = [u] := List.length_eq_one_iff.mp hl
    obtain ⟨a, ws, e1, hw, rd⟩ := h.src s
    subst e1
    exact ⟨a, ws, rfl, .inl (by rw [hK]; exact hw), q _ _ (h.pop.pushIm Ext.refl (by unfold rD; rw [rd.len]))⟩) (pe_callB call_len_seq hg hm PySem.boot_len (ea_cons h ea_nil he) (by decide) (by decide) he hpl)
theorem ee_lenT {nm : Pos} (hm : X.mg "len" = none) (h : EE X C Γ Ts e Γ1 (.im (.tup ds))) (hg : Gl X "len" := by rfl) (hK : X.K = C.K := by rfl) (he : starEach [e] X.env = (false, eval e X.env) :: starEach [] X.env := by rfl) (hpl : (backTo pos (starEach [] X.env)).any (·.1) = false := by rfl) : EE X C Γ Ts (.Call (.Name "len" nm) [e] [] pos) Γ1 (.im (.int ds.length)) :=
  cb_wk (cls_1 fun x H hx Q q => by
    unfold rD at hx
    obtain ⟨a, us, e, hl, rd⟩ := hx
    subst e
    exact ⟨a, us, rfl, .inr (by rw [hK]; exact hl.t), q _ (by unfold rD; rw [rd.len])⟩) (pe_callB call_len_seq hg hm PySem.boot_len (ea_cons h ea_nil he) (by decide) (by decide) he hpl)
end
end RL

set_option maxHeartbeats 2000000
/-! RL8: what loops walk, comprehensions, a def's body -/
namespace RL
open PySem L2

section
variable {X : Cx} {C : Cn} {Γ Γ1 Γ2 Γ3 Γ' : Ctx} {Ts Hs : List T} {t t1 t2 t3 : T} {ts : List T} {e a b c tg iter elt : Expr} {es rest ifs : List Expr} {pos p p2 nm : Pos} {i j : Nat} {d d1 d2 d3 : D} {ds ds' : List D} {m : M} {b1 b2 k : Bool} {hx : V → T} {cond : Ctx → Prop} {body : List Stmt}
theorem it_wk (h : IT X C Hs tg iter Γ Γ1 hx cond ds) (w : wkL Γ2 Γ1) : IT X C Hs tg iter Γ Γ2 hx cond ds := h.wk fun σ H R ⟨hs, h0, q⟩ => ⟨hs, h0, fun v J H1 hA g => q v J H1 (hA.wk w) g⟩
theorem it_tup (h : EE X C Γ Hs iter Γ1 (.im (.tup ds))) (hK : X.K = C.K := by rfl) : IT X C Hs tg iter Γ Γ1 (fun v => .hid (.im (.tup ds)) v) (fun _ => True) ds := (pi_tup h).wk fun σ H R ⟨hs, h0, q⟩ => ⟨hs, h0, fun v H1 h1 => by
  have r := h1.topIm
  unfold rD at r
  obtain ⟨a, us, e, hq, rd⟩ := r
  subst e
  refine ⟨a, rfl, ⟨us, by rw [hK]; exact hq.t⟩, q (.ref a) _ H1 h1.hide ⟨fun H => ∃ xs, SqT X.K H a xs ∧ rDs C.K ds xs H, fun i H x H' => H' = H ∧ ∃ d, ds[i]? = some d ∧ rD C.K d x H, ⟨?_, ?_, ?_⟩, ?_, ?_⟩⟩
  · rintro i H hi ⟨xs, s, r⟩
    obtain ⟨u, hu, _⟩ := r.get (List.getElem?_eq_getElem hi)
    exact ⟨xs, u, s, hu⟩
  · rintro H ⟨xs, s, r⟩
    exact ⟨xs, s, Nat.le_of_eq r.len⟩
  · rintro i H x H' hi ⟨xs, s, r⟩ ⟨e1, y⟩
    exact ⟨e1, r.get2 (y xs s)⟩
  · intro Γ' σ' hs' H' _ hA
    obtain ⟨F, ⟨_, r⟩, _⟩ := hA.top
    unfold rM at r
    have r := r.1
    unfold rD at r
    obtain ⟨a', us', e', hq', rd'⟩ := r
    cases e'
    exact ⟨us', by rw [hK]; exact hq'.t, rd'⟩
  · rintro i H' x H'' hi _ ⟨e1, d, hd, rd⟩
    subst e1
    exact ⟨Ext.refl, d, hd, rd⟩⟩
theorem walk_lst {K : PySem.W.Frag} {a : Addr} : Walk (Itl K a) ds.length (fun H => ∃ xs, SqL K H a xs ∧ rDs K ds xs H) (fun i H x H' => H' = H ∧ ∃ d, ds[i]? = some d ∧ rD K d x H) := by
  refine ⟨?_, ?_, ?_⟩
  · rintro i H hi ⟨xs, s, r⟩
    obtain ⟨u, hu, _⟩ := r.get (List.getElem?_eq_getElem hi)
    exact ⟨xs, u, s, hu⟩
  · rintro H ⟨xs, s, r⟩
    exact ⟨xs, s, Nat.le_of_eq r.len⟩
  · rintro i H x H' hi ⟨xs, s, r⟩ ⟨e1, y⟩
    exact ⟨e1, r.get2 (y xs s)⟩
theorem it_lstH (h : EE X C Γ Hs iter Γ1 (.own (.li ds))) (hK : X.K = C.K := by rfl) : IT X C Hs tg iter Γ Γ1 (fun v => .hid (.li ds) v) (fun _ => True) ds := (pi_list h).wk fun σ H R ⟨hs, h0, q⟩ => ⟨hs, h0, fun v H1 h1 => by
  obtain ⟨a, us, e, hl, rd⟩ := h1.src .own
  subst e
  refine ⟨a, rfl, ⟨us, by rw [hK]; exact hl⟩, q (.ref a) _ H1 h1.hide ⟨_, _, (by rw [hK]; exact walk_lst), ?_, ?_⟩⟩
  · intro Γ' σ' hs' H' _ hA
    obtain ⟨F, ⟨_, r⟩, _⟩ := hA.top
    unfold rM at r
    obtain ⟨a', us', e', hl', rd', _⟩ := r
    cases e'
    exact ⟨us', SqL.of hl', rd'⟩
  · rintro i H' x H'' hi _ ⟨e1, d, hd, rd⟩
    subst e1
    exact ⟨Ext.refl, d, hd, rd⟩⟩
/-- the numbers from lo on below hi -/
def rng (lo hi : Int) : List Int := (List.range (hi - lo).toNat).map fun i => lo + (i : Nat)
theorem rng_length {lo hi : Int} : (rng lo hi).length = (hi - lo).toNat := by unfold rng; simp
theorem rng_get {lo hi : Int} {i : Nat} (h : i < (hi - lo).toNat) : ((rng lo hi).map D.int)[i]? = some (.int (lo + (i : Nat))) := by
  unfold rng
  simp [h]
theorem it_rngW {lo n : Int} (R : It → Hp → Prop) {σ : L2.St} {hs : List V} {H : Hp} (h : As C Γ1 Hs σ hs H)
    (q : ∀ v J H1, As C Γ1 (Hs ++ [(fun v => T.hid (.im .non) v) v]) σ (hs ++ [v]) H1 → (∃ G Y, Walk J ((rng lo n).map D.int).length G Y ∧ (∀ Γ' σ' hs' H', True → As C Γ' (Hs ++ [(fun v => T.hid (.im .non) v) v]) σ' (hs' ++ [v]) H' → G H') ∧
      ∀ i H' x H'', i < ((rng lo n).map D.int).length → G H' → Y i H' x H'' → Ext H' H'' ∧ ∃ d, ((rng lo n).map D.int)[i]? = some d ∧ rD C.K d x H'') → R J H1) : R (Itr lo (n - lo).toNat) H := by
  have h1 : As C Γ1 (Hs ++ [.im .non]) σ (hs ++ [.non]) H := h.pushIm Ext.refl (by unfold rD; rfl)
  refine q .non _ H h1.hide ⟨_, _, (by rw [List.length_map, rng_length]; exact walk_range), fun _ _ _ _ _ _ => trivial, ?_⟩
  rintro i H' x H'' hi _ ⟨e1, e2⟩
  subst e1
  rw [List.length_map, rng_length] at hi
  exact ⟨Ext.refl, _, rng_get hi, by unfold rD; exact e2⟩
theorem it_rng1 {n : Int} (hm : X.mg "range" = none) (h : EE X C Γ Hs a Γ1 (.im (.int n))) (h1 : -(2 ^ 62) ≤ n) (h2 : n < 2 ^ 62) (hg : Gl X "range" := by rfl) (hs : starEach [a] X.env = (false, eval a X.env) :: starEach [] X.env := by rfl) (hs2 : starEach [a] X.env = [(false, eval a X.env)] := by rfl) : IT X C Hs tg (.Call (.Name "range" p) [a] [] pos) Γ Γ1 (fun v => .hid (.im .non) v) (fun _ => True) ((rng 0 n).map D.int) :=
  (pi_range1 hg hm (ea_cons h ea_nil hs) hs2).wk fun σ H R ⟨hs, h0, q⟩ => ⟨hs, h0, fun us H1 hl hA => by
    obtain ⟨u, rfl⟩ : ∃ u, us = [u] := List.length_eq_one_iff.mp hl
    have e := hA.topIm
    unfold rD at e
    subst e
    refine ⟨n, rfl, h1, h2, ?_⟩
    have z := it_rngW (lo := 0) (n := n) R hA.pop q
    rw [Int.sub_zero] at z
    exact z⟩
/-! #### enumerate -/
def enumD (ds : List D) : List D := ds.mapIdx fun i d => D.tup [.int i, d]
theorem enumD_get {i : Nat} {d : D} (h : ds[i]? = some d) : (enumD ds)[i]? = some (.tup [.int i, d]) := by
  unfold enumD
  rw [List.getElem?_mapIdx, h] <;> rfl
theorem rD_pair {K : PySem.W.Frag} {H : Hp} {q : Addr} {x : V} {i : Nat} {d : D} {o : Obj} (ho : o.dict = none) (hq : H q = some (.frz o (.tup [.int (i : Nat), x]))) (r : rD K d x H) : rD K (.tup [.int i, d]) (.ref q) H := by
  unfold rD
  refine ⟨q, _, rfl, SqN.new hq ho, ?_⟩
  unfold rDs
  exact ⟨_, _, rfl, by unfold rD; rfl, .one r⟩
theorem it_enumT {elts : List Expr} {kk : Nat} {tpos : Pos} (hm : X.mg "enumerate" = none) (h : EE X C Γ Hs a Γ1 (.im (.tup ds))) (hg : Gl X "enumerate" := by rfl) (hK : X.K = C.K := by rfl) (hs : starEach [a] X.env = (false, eval a X.env) :: starEach [] X.env := by rfl) (hs2 : starEach [a] X.env = [(false, eval a X.env)] := by rfl) :
    IT X C Hs (.Tuple elts kk tpos) (.Call (.Name "enumerate" p) [a] [] pos) Γ Γ1 (fun v => .hid (.im (.tup ds)) v) (fun _ => True) (enumD ds) :=
  (pi_enumT hg hm (ea_cons h ea_nil hs) hs2).wk fun σ H R ⟨hs, h0, q⟩ => ⟨hs, h0, fun us H1 hl h1 => by
    obtain ⟨u, rfl⟩ : ∃ u, us = [u] := List.length_eq_one_iff.mp hl
    have r := h1.topIm
    unfold rD at r
    obtain ⟨a, us, e, hq, rd⟩ := r
    subst e
    refine ⟨a, us, rfl, by rw [hK]; exact hq.t, q (.ref a) _ H1 h1.hide ⟨fun H => ∃ xs, SqT X.K H a xs ∧ rDs C.K ds xs H, fun i H x H' => Ext H H' ∧ ∃ d, (enumD ds)[i]? = some d ∧ rD C.K d x H', ⟨?_, ?_, ?_⟩, ?_, ?_⟩⟩
    · rintro i H hi ⟨xs, s, r⟩
      unfold enumD at hi
      rw [List.length_mapIdx] at hi
      obtain ⟨u, hu, _⟩ := r.get (List.getElem?_eq_getElem hi)
      exact ⟨xs, u, s, hu⟩
    · rintro H ⟨xs, s, r⟩
      exact ⟨xs, s, by unfold enumD; rw [List.length_mapIdx]; exact Nat.le_of_eq r.len⟩
    · rintro i H x H' hi ⟨xs, s, r⟩ ⟨q1, x1, o1, e1, hn, ho1, e2, y⟩
      subst e1 e2
      obtain ⟨d, hd, rd⟩ := r.get2 (y xs s)
      exact ⟨Ext.new hn, _, enumD_get hd, rD_pair ho1 upd_same (rd.tf (Ext.new hn).tf)⟩
    · intro Γ' σ' hs' H' _ hA
      obtain ⟨F, ⟨_, r⟩, _⟩ := hA.top
      unfold rM at r
      have r := r.1
      unfold rD at r
      obtain ⟨a', us', e', hq', rd'⟩ := r
      cases e'
      exact ⟨us', by rw [hK]; exact hq'.t, rd'⟩
    · rintro i H' x H'' hi _ ⟨e1, d, hd, rd⟩
      exact ⟨e1, d, hd, rd⟩⟩
end

/-! ### comprehensions -/
theorem wipe_in {σ : L2.St} {i : Nat} : ∀ {vs : List Nat}, i ∈ vs → i < σ.length → (wipe σ vs)[i]? = some none
  | [], h, _ => nomatch h
  | v :: vs, h, hl => by
    unfold wipe
    by_cases e : v = i
    · subst e
      rw [List.getElem?_set_self (by rw [wipe_length]; exact hl)]
    · rw [List.getElem?_set_ne e]
      rcases List.mem_cons.mp h with z | z
      · exact absurd z.symm e
      · exact wipe_in z hl
theorem wipe_of {σ σ' : L2.St} {J : List Nat} (a : Agree J σ σ') : wipe σ' J = wipe σ J := by
  apply List.ext_getElem?
  intro i
  by_cases h : i ∈ J
  · by_cases hl : i < σ.length
    · rw [wipe_in h hl, wipe_in h (by rw [a.1]; exact hl)]
    · have h1 := a.1
      have h2 : (wipe σ' J).length = σ'.length := wipe_length _ _
      have h3 : (wipe σ J).length = σ.length := wipe_length _ _
      rw [List.getElem?_eq_none (l := wipe σ' J) (by omega), List.getElem?_eq_none (l := wipe σ J) (by omega)]
  · rw [wipe_out h, wipe_out h, a.2 i h]
theorem agree_wipe {σ : L2.St} {J : List Nat} : Agree J σ (wipe σ J) := ⟨wipe_length _ _, fun i h => wipe_out h⟩
theorem Agree.symm {σ σ' : L2.St} {J : List Nat} (a : Agree J σ σ') : Agree J σ' σ := ⟨a.1.symm, fun i h => (a.2 i h).symm⟩
theorem wipe_wipe {σ : L2.St} {J : List Nat} : wipe (wipe σ J) J = wipe σ J := wipe_of agree_wipe
/-- nothing is told of the slots in J -/
def Bare (J : List Nat) (Γ : Ctx) : Prop := ∀ i ∈ J, ∀ m, Γ[i]? ≠ some (some m)
def FreeJ (J : List Nat) (Ts : List T) : Prop := ∀ i ∈ J, Free i Ts
theorem Free.append {i : Nat} : ∀ {a b : List T}, Free i a → Free i b → Free i (a ++ b)
  | [], _, _, h => h
  | _ :: _, _, ⟨h1, h2⟩, h => ⟨h1, h2.append h⟩
theorem lcM_cons {S α β : Type} {f : S → α → Option (S × Option β)} {s s1 : S} {x : α} {xs : List α} {ys : List β} (h : lcM f s (x :: xs) = some (s1, ys)) : ∃ s' od zs, f s x = some (s', od) ∧ lcM f s' xs = some (s1, zs) ∧ ys = (match od with | some d => d :: zs | none => zs) := by
  unfold lcM at h
  cases e : f s x with
  | none => rw [e] at h; cases h
  | some p =>
    obtain ⟨s', od⟩ := p
    rw [e] at h
    cases e2 : lcM f s' xs with
    | none => simp [e2] at h
    | some q =>
      obtain ⟨s2, zs⟩ := q
      simp only [Option.bind_some, e2, Option.some.injEq, Prod.mk.injEq] at h
      exact ⟨s', od, zs, rfl, by rw [← h.1]; exact e2, h.2.symm⟩
section
variable {X : Cx} {C : Cn} {Γ Γ1 Γ2 Γ3 Γ' : Ctx} {Ts Hs : List T} {t t1 t2 t3 : T} {ts : List T} {e a b c tg iter elt : Expr} {es rest ifs : List Expr} {pos p p2 nm : Pos} {i j : Nat} {d d1 d2 d3 : D} {ds ds' : List D} {m : M} {b1 b2 k : Bool} {hx : V → T} {cond : Ctx → Prop} {body : List Stmt}
  {S α β : Type} {f : S → α → Option (S × Option β)} {enc : α → D} {eb : β → D} {xs : List α} {s0 s1 : S} {ys : List β} {Γs : S → Ctx} {Γt Γu : S → α → Ctx} {tb : S → α → Bool} {own : List (Str × Nat)} {scope : Scope}
/-- what a comprehension's parts do -/
structure Lc (X : Cx) (C : Cn) (Ts : List T) (Γ : Ctx) (tg iter elt : Expr) (ifs : List Expr) (scope : Scope) (own : List (Str × Nat)) (f : S → α → Option (S × Option β)) (enc : α → D) (eb : β → D) (xs : List α) (s0 : S) (Γs : S → Ctx) (Γt Γu : S → α → Ctx) (tb : S → α → Bool) (hx : V → T) (cond : Ctx → Prop) : Prop where
  fx : Fix hx
  it : IT X C Ts tg iter Γ (Γs s0) hx cond (xs.map enc)
  cd : ∀ s, cond (Γs s)
  gt : ∀ (s : Shared) (H : Hp) (Ca : Addr) (cl : List (Str × Addr)) (fp : List Addr) (v q : V) (acc : List D) (st : S) (x : α), GT (X.blk s H scope (compEnvC scope cl Ca X.env) fp) C (Ts ++ [hx v] ++ [.hid (.li acc) q]) (Γs st) tg (enc x) (Γt st x) (own.map (·.2))
  tt : ∀ (s : Shared) (H : Hp) (Ca : Addr) (cl : List (Str × Addr)) (fp : List Addr) (v q : V) (acc : List D) (st : S) (x : α), (∃ r, f st x = some r) → PTs (X.blk s H scope (compEnvC scope cl Ca X.env) fp) ifs (tr C (Γt st x) (Ts ++ [hx v] ++ [.hid (.li acc) q]) (Γu st x) (tb st x))
  el : ∀ (s : Shared) (H : Hp) (Ca : Addr) (cl : List (Str × Addr)) (fp : List Addr) (v q : V) (acc : List D) (st : S) (x : α) (st' : S) (y : β), tb st x = true → f st x = some (st', some y) → EE (X.blk s H scope (compEnvC scope cl Ca X.env) fp) C (Γu st x) (Ts ++ [hx v] ++ [.hid (.li acc) q]) elt (Γs st') (.im (eb y))
  ft : ∀ st x r, tb st x = true → f st x = some r → ∃ d, r.2 = some d
  ff : ∀ st x r, tb st x = false → f st x = some r → r.2 = none ∧ wkL (Γs r.1) (Γu st x)
  br : ∀ s, Bare (own.map (·.2)) (Γs s)
  fr : FreeJ (own.map (·.2)) Ts
  fh : ∀ v, FreeJ (own.map (·.2)) [hx v]
  pn : ∀ p ∈ C.pin, p.1 ∉ own.map (·.2)
  ln : xs.length ≤ sizeLine
def lcG (C : Cn) (Ts : List T) (own : List (Str × Nat)) (enc : α → D) (Γs : S → Ctx) (Γt : S → α → Ctx) (hx : V → T) : TG := fun v σ H Q => ∃ q : V × V × List D × S × α, True ∧ gr C (Γs q.2.2.2.1) (Ts ++ [hx q.1] ++ [.hid (.li q.2.2.1) q.2.1]) (enc q.2.2.2.2) (Γt q.2.2.2.1 q.2.2.2.2) (own.map (·.2)) v σ H Q
def lcT (C : Cn) (Ts : List T) (f : S → α → Option (S × Option β)) (Γt Γu : S → α → Ctx) (tb : S → α → Bool) (hx : V → T) : TT := fun σ H Q => ∃ q : V × V × List D × S × α, (∃ r, f q.2.2.2.1 q.2.2.2.2 = some r) ∧ tr C (Γt q.2.2.2.1 q.2.2.2.2) (Ts ++ [hx q.1] ++ [.hid (.li q.2.2.1) q.2.1]) (Γu q.2.2.2.1 q.2.2.2.2) (tb q.2.2.2.1 q.2.2.2.2) σ H Q
def lcE (C : Cn) (Ts : List T) (f : S → α → Option (S × Option β)) (eb : β → D) (Γs : S → Ctx) (Γu : S → α → Ctx) (tb : S → α → Bool) (hx : V → T) : TE := fun σ H Q => ∃ q : V × V × List D × S × α × S × β, (tb q.2.2.2.1 q.2.2.2.2.1 = true ∧ f q.2.2.2.1 q.2.2.2.2.1 = some (q.2.2.2.2.2.1, some q.2.2.2.2.2.2)) ∧
  er C (Γu q.2.2.2.1 q.2.2.2.2.1) (Ts ++ [hx q.1] ++ [.hid (.li q.2.2.1) q.2.1]) (Γs q.2.2.2.2.2.1) (.im (eb q.2.2.2.2.2.2)) σ H Q
theorem Lc.sat (L : Lc X C Ts Γ tg iter elt ifs scope own f enc eb xs s0 Γs Γt Γu tb hx cond) (h : lcM f s0 xs = some (s1, ys)) {σ : L2.St} {vs : List V} {H : Hp} {Q : VK} (h0 : As C Γ Ts σ vs H) (q : ∀ z H', As C (Γs s1) (Ts ++ [.own (.li (ys.map eb))]) σ (vs ++ [z]) H' → Q z H') :
    tLc (ir C Γ Ts (Γs s0) hx cond (xs.map enc)) (lcG C Ts own enc Γs Γt hx) (lcT C Ts f Γt Γu tb hx) (lcE C Ts f eb Γs Γu tb hx) (own.map (·.2)) σ H Q := by
  refine ⟨vs, h0, fun v Ji H1 hA ⟨G, Y, w, g1, g2⟩ Dd hD => ?_⟩
  rw [List.length_map] at w g2
  have fr2 : FreeJ (own.map (·.2)) (Ts ++ [hx v]) := fun i hi => (L.fr i hi).append (L.fh v i hi)
  have fr3 : ∀ acc, FreeJ (own.map (·.2)) (Ts ++ [hx v] ++ [.hid (.li acc) (.ref Dd)]) := fun acc i hi => (fr2 i hi).append ⟨trivial, trivial⟩
  have hA1 : As C (Γs s0) (Ts ++ [hx v]) (wipe σ (own.map (·.2))) (vs ++ [v]) H1 := hA.sig (wipe_length _ _) (fun i hi => wipe_out hi) (L.br s0) fr2 L.pn
  have hA2 : As C (Γs s0) (Ts ++ [hx v] ++ [.hid (.li []) (.ref Dd)]) (wipe σ (own.map (·.2))) (vs ++ [v] ++ [.ref Dd]) (upd H1 Dd (.lst [])) := by
    refine hA1.push (Ext.new hD) (t := .hid (.li []) (.ref Dd)) (F := fun a => a = Dd) ⟨rfl, ?_⟩ (fun a e => by rw [e]; exact hD) fun a e => by rw [e, upd_same]; trivial
    unfold rM
    exact ⟨Dd, [], rfl, upd_same, by unfold rDs; rfl, fun b => Iff.rfl⟩
  refine lc_it (g := lcG C Ts own enc Γs Γt hx) (tt := lcT C Ts f Γt Γu tb hx) (te := lcE C Ts f eb Γs Γu tb hx) w (fun i H => ∃ (st : S) (acc zs : List β), As C (Γs st) (Ts ++ [hx v] ++ [.hid (.li (acc.map eb)) (.ref Dd)]) (wipe σ (own.map (·.2))) (vs ++ [v] ++ [.ref Dd]) H ∧ lcM f st (xs.drop i) = some (s1, zs) ∧ ys = acc ++ zs ∧ acc.length ≤ i)
    ⟨s0, [], ys, hA2, by simpa using h, rfl, Nat.le_refl _⟩ (fun i H hi ⟨st, acc, zs, hB, _⟩ => g1 _ _ _ H (L.cd st) hB.pop) (fun i x H H' hi ⟨st, acc, zs, hB, hm, hy, hlen⟩ y => ?_) (fun H ⟨st, acc, zs, hB, hm, hy, _⟩ => ?_)
  · obtain ⟨ex, d, hd, rd⟩ := g2 i H x H' hi (g1 _ _ _ H (L.cd st) hB.pop) y
    rw [List.getElem?_map, List.getElem?_eq_getElem hi] at hd
    cases hd
    rw [List.drop_eq_getElem_cons hi] at hm
    obtain ⟨st', od, zs', hf, hm', hz⟩ := lcM_cons hm
    refine ⟨(v, .ref Dd, acc.map eb, st, xs[i]), trivial, _, hB.ext ex, rd, fun σ2 ag h2 => ?_⟩
    refine ⟨by rw [wipe_of ag, wipe_wipe], (v, .ref Dd, acc.map eb, st, xs[i]), ⟨_, hf⟩, _, h2, fun H3 h3 => ?_⟩
    have ag2 : Agree (own.map (·.2)) (wipe σ (own.map (·.2))) σ2 := ag
    cases hb : tb st xs[i] with
    | true =>
      show (if true = true then _ else _)
      rw [if_pos rfl]
      obtain ⟨d, hod⟩ := L.ft st xs[i] _ hb hf
      cases hod
      refine ⟨(v, .ref Dd, acc.map eb, st, xs[i], st', d), ⟨hb, hf⟩, _, h3, fun yv H4 h4 => ?_⟩
      have rdy := h4.topIm
      have h5 := h4.pop
      obtain ⟨F, ⟨e5, r5⟩, up⟩ := h5.top
      unfold rM at r5
      obtain ⟨a5, us5, ea, hl5, rd5, hF5⟩ := r5
      cases ea
      refine ⟨us5, hl5, by rw [rd5.len, List.length_map]; exact Nat.lt_of_le_of_lt hlen (Nat.lt_of_lt_of_le hi L.ln), st', acc ++ [d], zs', ?_, hm', by rw [hy, hz]; simp, by simp; omega⟩
      have mu : Mut (H4 Dd) := by rw [hl5]; trivial
      have h6 : As C (Γs st') (Ts ++ [hx v] ++ [.hid (.li ((acc ++ [d]).map eb)) (.ref Dd)]) σ2 (vs ++ [v] ++ [.ref Dd]) (upd H4 Dd (.lst (us5 ++ [yv]))) := by
        refine up (.hid (.li ((acc ++ [d]).map eb)) (.ref Dd)) (.ref Dd) _ F (TF.write mu) (fun b nb _ => upd_ne fun z => nb ((hF5 b).2 z)) ⟨rfl, ?_⟩ (fun b hb => .inl hb) fun b hb => by rw [(hF5 b).1 hb, upd_same]; trivial
        unfold rM
        rw [List.map_append]
        exact ⟨Dd, _, rfl, upd_same, (rd5.app (.one rdy)).tf (TF.write mu), hF5⟩
      exact h6.sig (by rw [ag2.1]) (fun i hi => (ag2.2 i hi).symm) (L.br st') (fr3 _) L.pn
    | false =>
      show (if false = true then _ else _)
      rw [if_neg Bool.false_ne_true]
      obtain ⟨ho, hw⟩ := L.ff st xs[i] _ hb hf
      cases ho
      have h5 := h3.wk hw
      exact ⟨st', acc, zs', h5.sig (by rw [ag2.1]) (fun i hi => (ag2.2 i hi).symm) (L.br st') (fr3 _) L.pn, hm', by rw [hy, hz], by omega⟩
  · rw [List.drop_length] at hm
    unfold lcM at hm
    cases hm
    rw [List.append_nil] at hy
    subst hy
    have h7 : As C (Γs s1) (Ts ++ [.own (.li (ys.map eb))]) (wipe σ (own.map (·.2))) (vs ++ [.ref Dd]) H := by
      obtain ⟨F, ⟨_, r⟩, up⟩ := hB.top
      have z : As C (Γs s1) (Ts ++ [hx v] ++ [.own (.li (ys.map eb))]) (wipe σ (own.map (·.2))) (vs ++ [v] ++ [.ref Dd]) H := up (.own (.li (ys.map eb))) (.ref Dd) H F TF.refl (fun _ _ _ => rfl) r (fun a ha => .inl ha) fun a ha => rM.mut r ha
      exact z.mid
    exact q (.ref Dd) H (h7.sig (wipe_length _ _).symm (fun i hi => (wipe_out hi).symm) (L.br s1) (fun i hi => (L.fr i hi).append ⟨trivial, trivial⟩) L.pn)
theorem ee_lc (hcm : X.calm = true) (hN : X.N.Nodup) (ok : BlkOk X.N X.env.scope scope own) (L : Lc X C Ts Γ tg iter elt ifs scope own f enc eb xs s0 Γs Γt Γu tb hx cond) (h : lcM f s0 xs = some (s1, ys)) (hs : ∀ x, foldedSetIterable iter X.env x = pure x := by intro _; rfl) :
    EE X C Γ Ts (.ListComp elt [⟨tg, iter, ifs, 0⟩] scope pos) (Γs s1) (.own (.li (ys.map eb))) := by
  have r := pe_lc (pos := pos) hcm hN L.it ok (g := lcG C Ts own enc Γs Γt hx) (tt := lcT C Ts f Γt Γu tb hx) (te := lcE C Ts f eb Γs Γu tb hx)
    (fun s H Ca cl fp => PG.ex (ι := V × V × List D × S × α) (P := fun _ => True) fun q _ => L.gt s H Ca cl fp q.1 q.2.1 q.2.2.1 q.2.2.2.1 q.2.2.2.2)
    (fun s H Ca cl fp => PTs.ex (ι := V × V × List D × S × α) (P := fun q => ∃ r, f q.2.2.2.1 q.2.2.2.2 = some r) fun q hq => L.tt s H Ca cl fp q.1 q.2.1 q.2.2.1 q.2.2.2.1 q.2.2.2.2 hq)
    (fun s H Ca cl fp => PE.ex (ι := V × V × List D × S × α × S × β) (P := fun q => tb q.2.2.2.1 q.2.2.2.2.1 = true ∧ f q.2.2.2.1 q.2.2.2.2.1 = some (q.2.2.2.2.2.1, some q.2.2.2.2.2.2)) fun q hq => L.el s H Ca cl fp q.1 q.2.1 q.2.2.1 q.2.2.2.1 q.2.2.2.2.1 q.2.2.2.2.2.1 q.2.2.2.2.2.2 hq.1 hq.2) hs
  refine r.wk fun σ H Q ⟨vs, h0, q⟩ => L.sat h h0 q
end
end RL

set_option maxHeartbeats 2000000
/-! RL9: more statements, more of lists, a def's body -/
namespace RL
open PySem L2

section
variable {X : Cx} {C : Cn} {Γ Γ1 Γ2 Γ3 Γ' : Ctx} {Ts Hs : List T} {t t1 t2 t3 : T} {ts : List T} {e a b c tg iter elt : Expr} {es rest ifs : List Expr} {pos p p2 nm px py pz pt spos : Pos} {i j l : Nat} {d d1 d2 d3 : D} {ds ds' : List D} {m m1 m2 m3 : M} {b1 b2 k : Bool} {hx : V → T} {cond : Ctx → Prop} {body : List Stmt}
  {S α β : Type} {f : S → α → Option (S × Option β)} {enc : α → D} {eb : β → D} {xs : List α} {s0 s1 : S} {ys : List β} {Γs : S → Ctx} {Γt Γu : S → α → Ctx} {tb : S → α → Bool} {own : List (Str × Nat)} {scope : Scope}
theorem free1 : Free i [.own m] := ⟨trivial, trivial⟩
/-- y = [..] -/
theorem s_setLc (i : Nat) {y : Str} (hcm : X.calm = true) (hN : X.N.Nodup) (hy : X.N[i]? = some y) (hyl : X.env.scope.names.lookup y = some .local) (hp : ∀ p ∈ C.pin, p.1 ≠ i) (hf : Free i Hs) (ok : BlkOk X.N X.env.scope scope own)
    (L : Lc X C Hs Γ tg iter elt ifs scope own f enc eb xs s0 Γs Γt Γu tb hx cond) (h : lcM f s0 xs = some (s1, ys)) (hsw : swapsWith (.ListComp elt [⟨tg, iter, ifs, 0⟩] scope pos) (some (.Name y py)) spos.line X.env = pure true) (hs : ∀ x, foldedSetIterable iter X.env x = pure x := by intro _; rfl) :
    S1 X C Hs Γ (.Assign [.Name y py] (.ListComp elt [⟨tg, iter, ifs, 0⟩] scope pos) spos) (.nx ((Γs s1).set i (some (.li (ys.map eb))))) := by
  have r := ps_setLc (pos := pos) (spos := spos) hcm hN hy hyl hsw L.it ok (g := lcG C Hs own enc Γs Γt hx) (tt := lcT C Hs f Γt Γu tb hx) (te := lcE C Hs f eb Γs Γu tb hx)
    (fun s H Ca cl fp => PG.ex (ι := V × V × List D × S × α) (P := fun _ => True) fun q _ => L.gt s H Ca cl fp q.1 q.2.1 q.2.2.1 q.2.2.2.1 q.2.2.2.2)
    (fun s H Ca cl fp => PTs.ex (ι := V × V × List D × S × α) (P := fun q => ∃ r, f q.2.2.2.1 q.2.2.2.2 = some r) fun q hq => L.tt s H Ca cl fp q.1 q.2.1 q.2.2.1 q.2.2.2.1 q.2.2.2.2 hq)
    (fun s H Ca cl fp => PE.ex (ι := V × V × List D × S × α × S × β) (P := fun q => tb q.2.2.2.1 q.2.2.2.2.1 = true ∧ f q.2.2.2.1 q.2.2.2.2.1 = some (q.2.2.2.2.2.1, some q.2.2.2.2.2.2)) fun q hq => L.el s H Ca cl fp q.1 q.2.1 q.2.2.1 q.2.2.2.1 q.2.2.2.2.1 q.2.2.2.2.2.1 q.2.2.2.2.2.2 hq.1 hq.2) hs
  exact r.wk fun σ H D ⟨⟨vs, h0⟩, q⟩ => L.sat h h0 fun z H' h' => q _ vs H' (h'.set hp hf)
/-- a, b = e1, e2 -/
theorem s_par2 (i j : Nat) {x y : Str} {kt k2 pt2} (hcm : X.calm = true) (hN : X.N.Nodup) (hi : X.N[i]? = some x) (hj : X.N[j]? = some y) (hij : i ≠ j) (hxl : X.env.scope.names.lookup x = some .local) (hyl : X.env.scope.names.lookup y = some .local)
    (hpi : ∀ p ∈ C.pin, p.1 ≠ i) (hpj : ∀ p ∈ C.pin, p.1 ≠ j) (hfi : Free i Hs) (hfj : Free j Hs) (ha : EA X C Γ Hs [a, b] Γ1 [.own m1, .own m2])
    (hw : swappedStores [.Tuple [.Name x px, .Name y py] kt pt] (.Tuple [a, b] k2 pt2) X.env = pure (some [x, y]) := by rfl)
    (hs : swapsWithSole [.Tuple [.Name x px, .Name y py] kt pt] (.Tuple [a, b] k2 pt2) pos.line X.env = pure false := by rfl) :
    S1 X C Hs Γ (.Assign [.Tuple [.Name x px, .Name y py] kt pt] (.Tuple [a, b] k2 pt2) pos) (.nx ((Γ1.set j (some m2)).set i (some m1))) :=
  (ps_par (pos := pos) hcm hN hi hj hij hxl hyl ha hw hs).wk fun σ H D ⟨⟨hs, h⟩, q⟩ => ⟨hs, h, fun us H1 hl h1 => by
    obtain ⟨u, w, rfl⟩ : ∃ u w, us = [u, w] := match us, hl with | [u, w], _ => ⟨u, w, rfl⟩
    refine ⟨u, w, rfl, ?_⟩
    have h2 : As C Γ1 ((Hs ++ [.own m1]) ++ [.own m2]) σ ((hs ++ [u]) ++ [w]) H1 := by simpa using h1
    have h3 := h2.set hpj (hfj.append free1)
    have h4 := h3.set hpi hfi
    have e : (σ.set j (some w)).set i (some u) = (σ.set i (some u)).set j (some w) := List.set_comm _ _ (Ne.symm hij)
    rw [e] at h4
    exact q _ hs H1 h4⟩
theorem s_par3 (i j l : Nat) {x y z : Str} {kt k2 pt2} (hcm : X.calm = true) (hN : X.N.Nodup) (hi : X.N[i]? = some x) (hj : X.N[j]? = some y) (hk : X.N[l]? = some z) (hij : i ≠ j) (hil : i ≠ l) (hjl : j ≠ l)
    (hxl : X.env.scope.names.lookup x = some .local) (hyl : X.env.scope.names.lookup y = some .local) (hzl : X.env.scope.names.lookup z = some .local)
    (hpi : ∀ p ∈ C.pin, p.1 ≠ i) (hpj : ∀ p ∈ C.pin, p.1 ≠ j) (hpl : ∀ p ∈ C.pin, p.1 ≠ l) (hfi : Free i Hs) (hfj : Free j Hs) (hfl : Free l Hs) (ha : EA X C Γ Hs [a, b, c] Γ1 [.own m1, .own m2, .own m3])
    (hw : swappedStores [.Tuple [.Name x px, .Name y py, .Name z pz] kt pt] (.Tuple [a, b, c] k2 pt2) X.env = pure (some [x, y, z]) := by rfl)
    (hs : swapsWithSole [.Tuple [.Name x px, .Name y py, .Name z pz] kt pt] (.Tuple [a, b, c] k2 pt2) pos.line X.env = pure false := by rfl) :
    S1 X C Hs Γ (.Assign [.Tuple [.Name x px, .Name y py, .Name z pz] kt pt] (.Tuple [a, b, c] k2 pt2) pos) (.nx (((Γ1.set l (some m3)).set j (some m2)).set i (some m1))) :=
  (ps_par3 (pos := pos) hcm hN hi hj hk hij hil hjl hxl hyl hzl ha hw hs).wk fun σ H D ⟨⟨hs, h⟩, q⟩ => ⟨hs, h, fun us H1 hl h1 => by
    obtain ⟨u, w, r, rfl⟩ : ∃ u w r, us = [u, w, r] := match us, hl with | [u, w, r], _ => ⟨u, w, r, rfl⟩
    refine ⟨u, w, r, rfl, ?_⟩
    have h2 : As C Γ1 (((Hs ++ [.own m1]) ++ [.own m2]) ++ [.own m3]) σ (((hs ++ [u]) ++ [w]) ++ [r]) H1 := by simpa using h1
    have h3 := h2.set hpl ((hfl.append free1).append free1)
    have h4 := h3.set hpj (hfj.append free1)
    have h5 := h4.set hpi hfi
    have e : ((σ.set l (some r)).set j (some w)).set i (some u) = ((σ.set i (some u)).set j (some w)).set l (some r) := by
      rw [List.set_comm _ _ (Ne.symm hij), List.set_comm (some r) (some u) (Ne.symm hil), List.set_comm (some r) (some w) (Ne.symm hjl)]
    rw [e] at h5
    exact q _ hs H1 h5⟩
/-! #### loops without a break -/
theorem s_for {f : S → α → Option S} {J : List Nat} (hcm : X.calm = true) (fx : Fix hx) (it : IT X C Hs tg iter Γ (Γs s0) hx cond (xs.map enc)) (hcond : ∀ s, cond (Γs s)) (gt : ∀ v s x, GT X C (Hs ++ [hx v]) (Γs s) tg (enc x) (Γt s x) J)
    (hb : ∀ v s x s', f s x = some s' → SS X C (Hs ++ [hx v]) (Γt s x) body (.nx (Γs s'))) (h : forS f s0 xs = some s1) (hf : ∀ x, foldedSetIterable iter X.env x = pure x := by intro _; rfl) (hp : PassesOwn (model X.prog X.w) X.A X.env X.xe := by exact PassesOwn.never) :
    S1 X C Hs Γ (.For tg iter body [] pos) (.nx (Γs s1)) :=
  s_forO (R := Unit) (ρ := fun _ => ([], .im .non)) (out := .nx s1) hcm fx it hcond gt (fun v s x out hf => by
    cases e : f s x with
    | none => rw [e] at hf; cases hf
    | some s' => rw [e] at hf; cases hf; exact hb v s x s' e) (forS_O h) hf hp
/-! #### more of lists -/
theorem ee_catT (h1 : EE X C Γ Ts a Γ1 (.im (.tup ds))) (h2 : EE X C Γ1 (Ts ++ [.im (.tup ds)]) b Γ2 (.im (.tup ds'))) (hl : ds.length + ds'.length ≤ sizeLine) (hK : X.K = C.K := by rfl) : EE X C Γ Ts (.BinOp a .Add b pos) Γ2 (.im (.tup (ds ++ ds'))) := ee_op op_catN h1 h2 (r2s_imN fun x y H rx ry Q q => by
  unfold rD at rx ry
  obtain ⟨p, us, rfl, hp, r1⟩ := rx
  obtain ⟨q', ws, rfl, hq, r2⟩ := ry
  have l1 := r1.len
  have l2 := r2.len
  refine ⟨p, q', us, ws, rfl, rfl, by rw [hK]; exact hp.t, by rw [hK]; exact hq.t, by omega, fun e => q _ H Ext.refl ?_, fun _ e => q _ H Ext.refl ?_, fun _ _ n o hn ho => q _ _ (Ext.new hn) ?_⟩
  · subst e
    have : ds = [] := List.length_eq_zero_iff.mp l1.symm
    subst this
    unfold rD
    exact ⟨_, _, rfl, hq, r2⟩
  · subst e
    have : ds' = [] := List.length_eq_zero_iff.mp l2.symm
    subst this
    unfold rD
    exact ⟨_, _, rfl, hp, by rw [List.append_nil]; exact r1⟩
  · unfold rD
    exact ⟨n, _, rfl, SqN.new upd_same ho, (r1.app r2).tf (Ext.new hn).tf⟩)
/-! #### x in a list or tuple of data without depth -/
end

/-! ### a def's body -/
theorem putAll_start : ∀ (ms : List M) (a : Ctx) (n : Nat), ms.length ≤ n → putAll (a ++ List.replicate n none) ((List.range' a.length ms.length).map some) ms = a ++ (ms.map some ++ List.replicate (n - ms.length) none)
  | [], a, n, h => by simp [putAll]
  | m :: ms, a, 0, h => by simp at h
  | m :: ms, a, n + 1, h => by
    have e1 : (List.range' a.length (m :: ms).length).map some = some a.length :: (List.range' (a.length + 1) ms.length).map some := by
      rw [List.length_cons, List.range'_succ, List.map_cons]
    rw [e1]
    unfold putAll
    have e2 : (a ++ List.replicate (n + 1) none).set a.length (some m) = (a ++ [some m]) ++ List.replicate n none := by
      rw [List.set_append_right _ _ (Nat.le_refl _), Nat.sub_self, List.replicate_succ, List.set_cons_zero]
      simp
    rw [e2]
    have ih := putAll_start ms (a ++ [some m]) n (by simp at h; omega)
    rw [List.length_append, List.length_singleton] at ih
    rw [ih]
    simp
theorem rMs.len {K : PySem.W.Frag} {H : Hp} : ∀ {ms : List M} {us : List V} {F : FS}, rMs K ms us H F → us.length = ms.length
  | [], us, F, h => by unfold rMs at h; rw [h.1] <;> rfl
  | m :: ms, us, F, h => by
    unfold rMs at h
    obtain ⟨w, ws, _, _, e, _, s, _⟩ := h
    rw [e, List.length_cons, List.length_cons, s.len]
theorem takeAll {C : Cn} {σ : L2.St} {H : Hp} : ∀ {ios : List Nat} {ms : List M} {Γ : Ctx} {Ts : List T} {vs : List V}, As C Γ Ts σ vs H → ios.Nodup → ms.length = ios.length → (∀ (k i : Nat) (m : M), ios[k]? = some i → ms[k]? = some m → Γ[i]? = some (some m)) →
    ∃ Γ' ts us, As C Γ' (Ts ++ ts) σ (vs ++ us) H ∧ ts.map T.mo = ms.map some ∧ us.length = ts.length ∧ ∀ (k i : Nat), ios[k]? = some i → ∃ u, us[k]? = some u ∧ σ[i]? = some (some u)
  | [], ms, Γ, Ts, vs, h, _, hl, _ => by
    have : ms = [] := List.length_eq_zero_iff.mp hl
    subst this
    exact ⟨Γ, [], [], by simpa using h, rfl, rfl, fun k i e => by simp at e⟩
  | i :: ios, [], Γ, Ts, vs, h, _, hl, _ => by simp at hl
  | i :: ios, m :: ms, Γ, Ts, vs, h, hn, hl, g => by
    obtain ⟨v, hv, h1⟩ := h.take (g 0 i m rfl rfl)
    rw [List.nodup_cons] at hn
    obtain ⟨Γ', ts, us, h2, e1, e2, e3⟩ := takeAll (ios := ios) (ms := ms) h1 hn.2 (by simpa using hl) fun k i' m' a b => by
      have ne : i ≠ i' := fun z => hn.1 (by rw [z]; exact List.mem_of_getElem? a)
      rw [List.getElem?_set_ne ne]
      exact g (k + 1) i' m' (by simpa using a) (by simpa using b)
    refine ⟨Γ', .tk i m :: ts, v :: us, by simpa using h2, by simp [e1, T.mo], by simp [e2], fun k i' a => ?_⟩
    cases k with
    | zero => simp at a; subst a; exact ⟨v, rfl, hv⟩
    | succ k => exact e3 k i' (by simpa using a)
/-- what a def's body has to show: called with ms it ends with r, its changed parameters bearing ms' -/
def Ends1 (X : Cx) (C : Cn) (n : Nat) (N : List Str) (ios : List Nat) (body : List Stmt) (ms : List M) (r : M) (ms' : List M) : Prop :=
  ∃ Γr, SS X C [] (ms.map some ++ List.replicate (N.length - n) none) body (.rt Γr r) ∧ ∀ (k i : Nat) (m : M), ios[k]? = some i → ms'[k]? = some m → Γr[i]? = some (some m)
theorem fn_body {P : Program} {w : World} {K : PySem.W.Frag} {mg : Str → Option Value} {base : Heap} {k n : Nat} {f : Addr} {fd : FuncData} {x qual : Str} {params : Arguments} {body : List Stmt} {sc : Scope} {N ps : List Str} {ios : List Nat} {rel : List M → M → List M → Prop}
    (F : FunD K x qual params body sc [] [] f fd) (S : FnScope N ps sc) (hn : n = ps.length) (hN : n ≤ N.length) (hio : ios.Nodup) (hin : ∀ i ∈ ios, i < n) (hrel : ∀ ms r ms', rel ms r ms' → ms.length = n ∧ ms'.length = ios.length)
    (hb : ∀ (cdv : Value) (A : Around) (outer : List Env) (s : Shared) (H : Hp) (E : XK) (H0 : Hp) (io : FS) (pin : List (Nat × V)) (mio : ∀ a, io a → Mut (H0 a)), (∀ p ∈ pin, p.1 ∈ ios) → Room k (A.deeper (PyProof.Rows.envOfC qual sc s.heap.objs.size f cdv)) → A.guards = some [] →
      ∀ ms r ms', rel ms r ms' → Ends1 (cxOf CX0 P w K mg base N qual sc f cdv A outer s H E).nox ⟨K, H0, io, pin, mio⟩ n N ios body ms r ms') :
    FnG P w K mg base (k + 1) f fd ps (spR K n ios rel) := by
  obtain ⟨oc, od, dV, kV, doc, pm, an, cdv, ct, osl, rfl, lk, hcd, _, _⟩ := F.ex
  refine FnG.of lk hcd S (spR_len hn) fun A outer s H vs Q E hr hg hsp => ?_
  obtain ⟨ms, G, r, ms', hvl, hms, hre, hml, q⟩ := hsp
  obtain ⟨l1, l2⟩ := hrel _ _ _ hre
  have mio : ∀ a, G a → Mut (H a) := fun a ha => rMs.mut hms ha
  let pin : List (Nat × V) := ios.map fun i => (i, vs.getD i .non)
  have hpin : ∀ p ∈ pin, p.1 ∈ ios := fun p hp => by
    obtain ⟨i, hi, rfl⟩ := List.mem_map.mp hp
    exact hi
  obtain ⟨Γr, hs, hΓ⟩ := hb cdv A outer s H E H G pin mio hpin hr hg ms r ms' hre
  refine ⟨_, hs, ?_⟩
  have hst : ∀ i, i < n → (L2.start N vs)[i]? = some (some (vs.getD i .non)) := fun i hi => by
    unfold L2.start
    rw [List.getElem?_append_left (by rw [List.length_map]; omega), List.getElem?_map]
    have : vs[i]? = some vs[i] := List.getElem?_eq_getElem (by omega)
    rw [this, List.getD_eq_getElem?_getD, this] <;> rfl
  have hlen : (L2.start N vs).length = N.length := by
    unfold L2.start
    rw [List.length_append, List.length_map, List.length_replicate]
    omega
  -- at the entry
  have B : AsB ⟨K, H, G, pin, mio⟩ (List.replicate N.length none) [] (L2.start N vs) [] ms vs H (fun _ => e0) G := by
    refine ⟨⟨by simp [hlen], rfl, fun i m e => ?_, fun k t e => by simp at e, fun x y _ => Dj.e0l, fun x a z => z.elim, fun x a z => z.elim, fun a o e _ => e, fun p hp => ?_⟩, hms, fun x => Dj.e0l, fun a ha => .inl ha⟩
    · rw [List.getElem?_replicate] at e
      split at e <;> cases e
    · obtain ⟨i, hi, rfl⟩ := List.mem_map.mp hp
      exact hst i (hin i hi)
  have A0 := B.putAll (js := (List.range' 0 ms.length).map some) fun k j hk => by
    rw [List.getElem?_map] at hk
    cases e : (List.range' 0 ms.length)[k]? with
    | none => rw [e] at hk; cases hk
    | some j' =>
      rw [e] at hk
      cases hk
      have hkl : k < ms.length := by
        have := (List.getElem?_eq_some_iff.mp e).1
        simpa using this
      have e2 : k = j := by
        rw [List.getElem?_range' hkl] at e
        have := Option.some.inj e
        omega
      subst e2
      refine ⟨vs.getD k .non, ?_, hst k (by omega)⟩
      have : vs[k]? = some vs[k] := List.getElem?_eq_getElem (by omega)
      rw [List.getD_eq_getElem?_getD, this] <;> rfl
  have e0' := putAll_start ms [] N.length (by omega)
  rw [List.nil_append] at e0'
  have e0'' : putAll (List.replicate N.length none) ((List.range' 0 ms.length).map some) ms = ms.map some ++ List.replicate (N.length - n) none := by
    have z : ([] : Ctx).length = 0 := rfl
    rw [z] at e0'
    rw [e0', l1]
    rfl
  rw [e0''] at A0
  refine ⟨⟨[], A0⟩, fun σ hs v H' h' => ?_⟩
  -- at the end
  obtain ⟨Γ', ts, us, h2, t1, t2, t3⟩ := takeAll (ios := ios) (ms := ms') h' hio l2 hΓ
  have hs0 : hs = [] := by
    obtain ⟨fp, W⟩ := h'
    have := W.ln
    simp at this
    exact this
  subst hs0
  have h3 : As ⟨K, H, G, pin, mio⟩ Γ' ([] ++ (.own r :: ts)) σ ([] ++ (v :: us)) H' := by simpa using h2
  obtain ⟨fp, G', B', _⟩ := As.blob (ms := r :: ms') (by simp [t1, T.mo]) (by simp [t2]) h3
  have eus : us = ios.map fun i => vs.getD i .non := by
    apply List.ext_getElem?
    intro k
    rw [List.getElem?_map]
    cases e : ios[k]? with
    | none =>
      have lk : ios.length ≤ k := List.getElem?_eq_none_iff.mp e
      have : us.length = ios.length := by
        have z : ts.length = ms'.length := by simpa using congrArg List.length t1
        omega
      rw [List.getElem?_eq_none (by omega)] <;> rfl
    | some i =>
      obtain ⟨u, hu, hσ⟩ := t3 k i e
      have hpm : (i, vs.getD i .non) ∈ pin := List.mem_map.mpr ⟨i, List.mem_of_getElem? e, rfl⟩
      have hσ2 := B'.w.pn _ hpm
      rw [hσ] at hσ2
      rw [hu]
      have z := Option.some.inj (Option.some.inj hσ2)
      rw [z]
      try rfl
  subst eus
  exact q v H' G' B'.r B'.s B'.w.fr
end RL

set_option maxHeartbeats 2000000
/-! RL10: data as the library reads them: ==, repr, isinstance; numbers; calls by names -/
namespace RL
open PySem L2

mutual
/-- a datum as the library tells it -/
def D.p : D → PyData
  | .non => .none
  | .bl b => .bool b
  | .int i => .int i
  | .str s => .str s
  | .tup l => .tuple (ps l)
  | .lst l => .list (ps l)
  | .dct _ => .none
  | .ty _ => .none
  | .tpw _ => .none
def ps : List D → List PyData
  | [] => []
  | d :: l => d.p :: ps l
end
mutual
/-- no dict and no class within, texts of signs alone -/
def D.ok : D → Bool
  | .non => true
  | .bl _ => true
  | .int _ => true
  | .str s => PyData.strOk s
  | .tup l => oks l
  | .lst l => oks l
  | .dct _ => false
  | .ty _ => false
  | .tpw _ => false
def oks : List D → Bool
  | [] => true
  | d :: l => d.ok && oks l
end
theorem oks_all : ∀ l : List D, oks l = l.all D.ok
  | [] => by unfold oks; rfl
  | d :: l => by unfold oks; rw [oks_all l] <;> rfl
mutual
theorem D.ok_lay : ∀ {d : D}, d.ok = true → d.p.canLay0 = true
  | .non, _ => by unfold D.p PyData.canLay0; rfl
  | .bl _, _ => by unfold D.p PyData.canLay0; rfl
  | .int _, _ => by unfold D.p PyData.canLay0; rfl
  | .str s, h => by unfold D.ok at h; unfold D.p PyData.canLay0; exact h
  | .tup l, h => by unfold D.ok at h; unfold D.p PyData.canLay0; exact oks_lay h
  | .lst l, h => by unfold D.ok at h; unfold D.p PyData.canLay0; exact oks_lay h
  | .dct _, h => by unfold D.ok at h; cases h
  | .ty _, h => by unfold D.ok at h; cases h
  | .tpw _, h => by unfold D.ok at h; cases h
theorem oks_lay : ∀ {l : List D}, oks l = true → PyData.canLayAll0 (ps l) = true
  | [], _ => by unfold ps PyData.canLayAll0; rfl
  | d :: l, h => by
    unfold oks at h
    rw [Bool.and_eq_true] at h
    unfold ps PyData.canLayAll0
    rw [D.ok_lay h.1, oks_lay h.2] <;> rfl
end
section
variable {X : Cx} {pins : List (Addr × Obj)} {σ : L2.St} {H : Hp} {s : Shared}
mutual
theorem rD.reads (I : Inv X pins σ H s) : ∀ {d : D} {v : V} {u : Value}, d.ok = true → rD X.K d v H → RelV v u → ∃ as, Reads s.heap u d.p as
  | .non, v, u, _, h, r => by unfold rD at h; subst h; cases (show u = Value.none from r); unfold D.p; exact ⟨_, .none⟩
  | .bl b, v, u, _, h, r => by unfold rD at h; subst h; cases (show u = Value.bool b from r); unfold D.p; exact ⟨_, .bool b⟩
  | .int i, v, u, _, h, r => by unfold rD at h; subst h; obtain ⟨t, rfl⟩ := r; unfold D.p; exact ⟨_, .int i t⟩
  | .str x, v, u, _, h, r => by unfold rD at h; subst h; obtain ⟨t, rfl⟩ := r; unfold D.p; exact ⟨_, .str x t⟩
  | .tup l, v, u, k, h, r => by
    unfold rD at h
    unfold D.ok at k
    obtain ⟨a, vs, e, hq, rd⟩ := h
    subst e
    cases (show u = Value.ref a from r)
    obtain ⟨its, rv, ⟨o, ho, hc, n, hd⟩, _⟩ := I.tuple hq.t
    obtain ⟨as, hr⟩ := rDs.reads I k rd rv
    unfold D.p
    exact ⟨_, .tuple ho hc hd hr⟩
  | .lst l, v, u, k, h, r => by
    unfold rD at h
    unfold D.ok at k
    obtain ⟨a, vs, e, hq, rd⟩ := h
    subst e
    cases (show u = Value.ref a from r)
    obtain ⟨its, rv, ⟨o, n, ho, hc, _, hd⟩, _⟩ := I.list (a := a) (xs := vs) hq.sq
    obtain ⟨as, hr⟩ := rDs.reads I k rd rv
    unfold D.p
    exact ⟨_, .list ho hc hd hr⟩
  | .dct _, v, u, k, h, r => by unfold D.ok at k; cases k
  | .ty _, v, u, k, h, r => by unfold D.ok at k; cases k
  | .tpw _, v, u, k, h, r => by unfold D.ok at k; cases k
theorem rDs.reads (I : Inv X pins σ H s) : ∀ {l : List D} {vs : List V} {us : List Value}, oks l = true → rDs X.K l vs H → Vals vs us → ∃ as, ReadsAll s.heap us (ps l) as
  | [], vs, us, _, h, r => by unfold rDs at h; subst h; cases r; unfold ps; exact ⟨_, .nil⟩
  | d :: l, vs, us, k, h, r => by
    unfold rDs at h
    unfold oks at k
    rw [Bool.and_eq_true] at k
    obtain ⟨w, ws, rfl, h1, h2⟩ := h
    cases r with
    | cons r1 r2 =>
      obtain ⟨as, q1⟩ := rD.reads I k.1 h1 r1
      obtain ⟨bs, q2⟩ := rDs.reads I k.2 h2 r2
      unfold ps
      exact ⟨_, .cons q1 q2⟩
end
theorem lst_reads (I : Inv X pins σ H s) {a : Addr} {vs : List V} {l : List D} (hl : SqL X.K H a vs) (k : oks l = true) (rd : rDs X.K l vs H) : ∃ as, Reads s.heap (.ref a) (.list (ps l)) as := by
  obtain ⟨its, rv, ⟨o, n, ho, hc, _, hd⟩, _⟩ := I.list hl
  obtain ⟨as, hr⟩ := rDs.reads I k rd rv
  exact ⟨_, .list ho hc hd hr⟩
end
/-- x bears p as data: a datum, or a list of data -/
inductive Bears (K : PySem.W.Frag) (H : Hp) : V → PyData → Prop where
  | d {d : D} {v : V} (k : d.ok = true) (h : rD K d v H) : Bears K H v d.p
  | l {l : List D} {a : Addr} {vs : List V} (k : oks l = true) (hl : SqL K H a vs) (h : rDs K l vs H) : Bears K H (.ref a) (.list (ps l))
def rEqB (K : PySem.W.Frag) : R2 := fun x y H Q => ∃ d e, Bears K H x d ∧ Bears K H y e ∧ d.canLay0 = true ∧ e.canLay0 = true ∧ min d.depth e.depth ≤ 64 ∧ Q (.bl (PyData.eqv d e)) H
def rNeB (K : PySem.W.Frag) : R2 := fun x y H Q => ∃ d e, Bears K H x d ∧ Bears K H y e ∧ d.canLay0 = true ∧ e.canLay0 = true ∧ min d.depth e.depth ≤ 64 ∧ Q (.bl (!PyData.eqv d e)) H
section
variable {X : Cx}
theorem Bears.reads {pins : List (Addr × Obj)} {σ : L2.St} {H : Hp} {s : Shared} (I : Inv X pins σ H s) {v : V} {u : Value} {p : PyData} (b : Bears X.K H v p) (r : RelV v u) : ∃ as, Reads s.heap u p as := by
  cases b with
  | d k h => exact h.reads I k r
  | l k hl h =>
    cases (show u = Value.ref _ from r)
    exact lst_reads I hl k h
theorem op_eqB (hu : X.A.units + 64 < cLine) : OpR X (compareOp .Eq) (rEqB X.K) := by
  rintro pins s σ H x y v u Q I rx ry ⟨d, e, b1, b2, l1, l2, hd, q⟩
  obtain ⟨as, r1⟩ := b1.reads I rx
  obtain ⟨bs, r2⟩ := b2.reads I ry
  exact SeqAt.compareEq_reads r1 r2 l1 l2 (by omega) ⟨.bl _, H, I, rfl, q⟩
theorem op_neB (hu : X.A.units + 64 < cLine) : OpR X (compareOp .NotEq) (rNeB X.K) := by
  rintro pins s σ H x y v u Q I rx ry ⟨d, e, b1, b2, l1, l2, hd, q⟩
  obtain ⟨as, r1⟩ := b1.reads I rx
  obtain ⟨bs, r2⟩ := b2.reads I ry
  exact SeqAt.compareNe_reads r1 r2 l1 l2 (by omega) ⟨.bl _, H, I, rfl, q⟩
/-- repr of data -/
def rRepr (K : PySem.W.Frag) : List V → Hp → VK → Prop := fun xs H Q => ∃ v p, xs = [v] ∧ Bears K H v p ∧ p.showable = true ∧ p.hasDict = false ∧ p.depth ≤ 60 ∧ p.shown.length ≤ sizeLine ∧ Q (.str p.shown) H
theorem call_repr (hg : X.A.guards = some []) (hu : X.A.units + 64 < cLine) : CallR X (.builtin "repr") (rRepr X.K) := by
  rintro pins s σ H xs us Q I r ⟨v, p, rfl, b, hs, hd, hp, hz, q⟩
  obtain ⟨u, rfl, ru⟩ := Vals.one r
  obtain ⟨as, rs⟩ := b.reads I ru
  have hsm := PyData.noDict_hsm (as := as) hd
  cases rs with
  | none => exact PySem.P.repr_of_none ⟨.str _, H, I.tok _, ⟨_, rfl⟩, by unfold PyData.shown at q; exact q⟩
  | bool b => exact PySem.P.repr_of_bool ⟨.str _, H, I.tok _, ⟨_, rfl⟩, by unfold PyData.shown at q; exact q⟩
  | int i t =>
    have hs' : i.natAbs.log2 < 1920 := by unfold PyData.showable at hs; exact of_decide_eq_true hs
    exact PySem.P.repr_of_int hs' ⟨.str _, H, I.tok _, ⟨_, rfl⟩, by unfold PyData.shown at q; exact q⟩
  | str x t => exact PySem.P.repr_of_str ⟨.str _, H, I.tok _, ⟨_, rfl⟩, by unfold PyData.shown at q; exact q⟩ (by unfold PyData.shown at hz; exact hz)
  | list h1 h2 h3 h4 => exact repr_of_reads' (.list h1 h2 h3 h4) hs hsm hg (by omega) (fun _ _ e => e) (fun h' u tk hk => ⟨.str _, H, I.kept (t' := tk) hk, ⟨_, rfl⟩, q⟩) hz
  | tuple h1 h2 h3 h4 => exact repr_of_reads' (.tuple h1 h2 h3 h4) hs hsm hg (by omega) (fun _ _ e => e) (fun h' u tk hk => ⟨.str _, H, I.kept (t' := tk) hk, ⟨_, rfl⟩, q⟩) hz
  | dict h1 h2 h3 h4 h5 => unfold PyData.hasDict at hd; cases hd
end

/-! ### over the state -/
section
variable {X : Cx} {C : Cn} {Γ Γ1 Γ2 Γ3 Γ' : Ctx} {Ts Hs : List T} {t t1 t2 t3 : T} {ts : List T} {e a b c : Expr} {es rest : List Expr} {pos p nm : Pos} {i j : Nat} {d d1 d2 d3 : D} {ds ds' : List D} {m : M} {b1 b2 k : Bool}
/-- what lies there bears data -/
inductive BT (Γ : Ctx) : T → PyData → Prop where
  | im {d : D} (k : d.ok = true) : BT Γ (.im d) d.p
  | src {t : T} {l : List D} (s : Src Γ t l) (k : oks l = true) : BT Γ t (.list (ps l))
theorem As.bears {σ : L2.St} {vs : List V} {v : V} {H : Hp} {q : PyData} (h : As C Γ (Ts ++ [t]) σ (vs ++ [v]) H) (b : BT Γ t q) : Bears C.K H v q := by
  cases b with
  | im k => exact .d k h.topIm
  | src s k =>
    obtain ⟨a, us, e, hl, rd⟩ := h.src s
    subst e
    exact .l k hl rd
theorem BT.lay {q : PyData} (b : BT Γ t q) : q.canLay0 = true := by
  cases b with
  | im k => exact D.ok_lay k
  | src s k => unfold PyData.canLay0; exact oks_lay k
theorem et_eqB {q1 q2 : PyData} (hu : X.A.units + 64 < cLine) (h1 : EE X C Γ Ts a Γ1 t1) (h2 : EE X C Γ1 (Ts ++ [t1]) b Γ2 t2) (k1 : BT Γ2 t1 q1) (k2 : BT Γ2 t2 q2) (hd : min q1.depth q2.depth ≤ 64) (hk : PyData.eqv q1 q2 = k) (hK : X.K = C.K := by rfl) : ET X C Γ Ts (.Compare a [.Eq] [b] pos) Γ2 k :=
  et_cmp (op_eqB hu) (nomark _) h1 h2 fun σ vs x y H hA Q q => ⟨q1, q2, by rw [hK]; exact hA.pop.bears k1, by rw [hK]; exact hA.bears k2, k1.lay, k2.lay, hd, q _ H (hA.pop.pop.pushIm Ext.refl (by unfold rD; rw [hk]))⟩
theorem et_neB {q1 q2 : PyData} (hu : X.A.units + 64 < cLine) (h1 : EE X C Γ Ts a Γ1 t1) (h2 : EE X C Γ1 (Ts ++ [t1]) b Γ2 t2) (k1 : BT Γ2 t1 q1) (k2 : BT Γ2 t2 q2) (hd : min q1.depth q2.depth ≤ 64) (hk : (!PyData.eqv q1 q2) = k) (hK : X.K = C.K := by rfl) : ET X C Γ Ts (.Compare a [.NotEq] [b] pos) Γ2 k :=
  et_cmp (op_neB hu) (nomark _) h1 h2 fun σ vs x y H hA Q q => ⟨q1, q2, by rw [hK]; exact hA.pop.bears k1, by rw [hK]; exact hA.bears k2, k1.lay, k2.lay, hd, q _ H (hA.pop.pop.pushIm Ext.refl (by unfold rD; rw [hk]))⟩
theorem eqv_nil (l : List D) : PyData.eqv (.list (ps l)) (.list (ps [])) = l.isEmpty := by
  cases l with
  | nil => unfold ps PyData.eqv PyData.eqvAll; rfl
  | cons d l => unfold ps PyData.eqv PyData.eqvAll; rfl
theorem dep_nil (q : PyData) : min q.depth (PyData.list (ps [])).depth ≤ 64 := by
  have : (PyData.list (ps [])).depth = 1 := by unfold ps PyData.depth PyData.depthAll; rfl
  rw [this]
  omega
/-- x == [], x != [] -/
theorem et_eqNil (hu : X.A.units + 64 < cLine) (h1 : EE X C Γ Ts a Γ1 t1) (s : Src Γ1 t1 ds) (ho : oks ds = true) {q : Pos} (hK : X.K = C.K := by rfl) : ET X C Γ Ts (.Compare a [.Eq] [.List [] q] pos) Γ1 ds.isEmpty :=
  et_eqB hu h1 (ee_lst (ds := []) ea_nil (by decide)) (.src s ho) (.src .own (by unfold oks; rfl)) (dep_nil _) (eqv_nil ds) hK
theorem et_neNil (hu : X.A.units + 64 < cLine) (h1 : EE X C Γ Ts a Γ1 t1) (s : Src Γ1 t1 ds) (ho : oks ds = true) {q : Pos} (hK : X.K = C.K := by rfl) : ET X C Γ Ts (.Compare a [.NotEq] [.List [] q] pos) Γ1 (!ds.isEmpty) :=
  et_neB hu h1 (ee_lst (ds := []) ea_nil (by decide)) (.src s ho) (.src .own (by unfold oks; rfl)) (dep_nil _) (congrArg not (eqv_nil ds)) hK
/-- what repr can show -/
def shows (q : PyData) : Bool := q.showable && !q.hasDict && decide (q.depth ≤ 60) && decide (q.shown.length ≤ sizeLine)
theorem ee_repr {q : PyData} (hG : X.A.guards = some []) (hu : X.A.units + 64 < cLine) (hm : X.mg "repr" = none) (h : EE X C Γ Ts e Γ1 t) (k : BT Γ1 t q) (hs : shows q = true) (hg : Gl X "repr" := by rfl) (hK : X.K = C.K := by rfl) (he : starEach [e] X.env = (false, eval e X.env) :: starEach [] X.env := by rfl) (hpl : (backTo pos (starEach [] X.env)).any (·.1) = false := by rfl) : EE X C Γ Ts (.Call (.Name "repr" nm) [e] [] pos) Γ1 (.im (.str q.shown)) :=
  cb_wk (ts := [t]) (fun σ vs us H hl h Q qq => by
    obtain ⟨u, rfl⟩ : ∃ u, us = [u] := List.length_eq_one_iff.mp hl
    unfold shows at hs
    simp only [Bool.and_eq_true, decide_eq_true_eq, Bool.not_eq_true'] at hs
    exact ⟨u, q, rfl, by rw [hK]; exact h.bears k, hs.1.1.1, hs.1.1.2, hs.1.2, hs.2, qq _ H (h.pop.pushIm Ext.refl (by unfold rD; rfl))⟩) (pe_callB (call_repr hG hu) hg hm (by decide +kernel) (ea_cons h ea_nil he) (by decide) (by decide) he hpl)
/-! #### numbers -/
theorem ee_abs {n : Int} (hm : X.mg "abs" = none) (h : EE X C Γ Ts e Γ1 (.im (.int n))) (hg : Gl X "abs" := by rfl) (he : starEach [e] X.env = (false, eval e X.env) :: starEach [] X.env := by rfl) (hpl : (backTo pos (starEach [] X.env)).any (·.1) = false := by rfl) : EE X C Γ Ts (.Call (.Name "abs" nm) [e] [] pos) Γ1 (.im (.int (if n < 0 then -n else n))) :=
  cb_wk (cls_1 fun x H hx Q q => by
    unfold rD at hx
    subst hx
    exact ⟨n, rfl, q _ (by unfold rD; rfl)⟩) (pe_callB call_abs hg hm (by decide +kernel) (ea_cons h ea_nil he) (by decide) (by decide) he hpl)
theorem ee_intB (hm : X.mg "int" = none) (h : EE X C Γ Ts e Γ1 (.im (.bl k))) (hg : Gl X "int" := by rfl) (he : starEach [e] X.env = (false, eval e X.env) :: starEach [] X.env := by rfl) (hpl : (backTo pos (starEach [] X.env)).any (·.1) = false := by rfl) : EE X C Γ Ts (.Call (.Name "int" nm) [e] [] pos) Γ1 (.im (.int (if k then 1 else 0))) :=
  cb_wk (cls_1 fun x H hx Q q => by
    unfold rD at hx
    subst hx
    exact .inr ⟨k, rfl, q _ (by unfold rD; rfl)⟩) (pe_callTy call_int1 hg hm (by decide +kernel) (ea_cons h ea_nil he) (by decide) (by decide) he hpl)
/-! #### isinstance -/
end
end RL

set_option maxHeartbeats 2000000
/-! RL11: in, calls by names, more walks, the law's own end -/
namespace RL
open PySem L2

/-! ### comprehensions without a state -/
theorem lcM_map {S α β : Type} (g : α → β) (s : S) : ∀ xs : List α, lcM (fun (s : S) x => some (s, some (g x))) s xs = some (s, xs.map g)
  | [] => rfl
  | x :: xs => by
    show (lcM _ s xs).bind _ = _
    rw [lcM_map g s xs] <;> rfl
theorem lcM_filter {S α β : Type} (t : α → Bool) (g : α → β) (s : S) : ∀ xs : List α, lcM (fun (s : S) x => some (s, if t x = true then some (g x) else none)) s xs = some (s, (xs.filter t).map g)
  | [] => rfl
  | x :: xs => by
    show (lcM _ s xs).bind _ = _
    rw [lcM_filter t g s xs]
    cases h : t x with
    | true => simp [h]
    | false => simp [h]

section
variable {X : Cx} {C : Cn} {Γ Γ1 Γ2 Γ3 Γ' : Ctx} {Ts Hs : List T} {t t1 t2 t3 : T} {ts : List T} {e a b c tg iter : Expr} {es rest : List Expr} {kws : List Keyword} {pos p nm kp : Pos} {i j : Nat} {d d1 d2 d3 r : D} {ds ds' ds1 ds2 : List D} {m rm : M} {b1 b2 k : Bool}
/-! ### in -/
theorem rDs_ints {K : PySem.W.Frag} {H : Hp} : ∀ {xs : List Int} {us : List V}, rDs K (xs.map D.int) us H → us = xs.map V.int
  | [], us, h => by have h : rDs K [] us H := h; unfold rDs at h; rw [h] <;> rfl
  | x :: xs, us, h => by
    have h : rDs K (D.int x :: xs.map D.int) us H := h
    unfold rDs at h
    obtain ⟨w, ws, rfl, r, s⟩ := h
    unfold rD at r
    rw [r, rDs_ints s] <;> rfl
theorem inV_ints (x : Int) (xs : List Int) : inV (.int x) (xs.map V.int) = decide (x ∈ xs) := by
  unfold inV
  induction xs with
  | nil => rfl
  | cons y ys ih =>
    rw [List.map_cons, List.any_cons, ih]
    show ((y == x) || _) = _
    by_cases e : y = x
    · subst e; simp
    · have e' : ¬ x = y := fun z => e z.symm
      simp [e, e']
theorem flat_ints (xs : List Int) : (xs.map V.int).all flatV = true := by simp [List.all_map]; intro x _; rfl
/-- the data of a list or of a tuple -/
inductive SrcQ (Γ : Ctx) : T → List D → Prop where
  | l {t : T} {ds : List D} (s : Src Γ t ds) : SrcQ Γ t ds
  | t {ds : List D} : SrcQ Γ (.im (.tup ds)) ds
theorem As.srcQ {σ : L2.St} {vs : List V} {v : V} {H : Hp} (h : As C Γ (Ts ++ [t]) σ (vs ++ [v]) H) (s : SrcQ Γ t ds) : ∃ a us, v = .ref a ∧ (SqL C.K H a us ∨ SqT C.K H a us) ∧ rDs C.K ds us H := by
  cases s with
  | l s =>
    obtain ⟨a, us, e, hl, rd⟩ := h.src s
    exact ⟨a, us, e, .inl hl, rd⟩
  | t =>
    have r := h.topIm
    unfold rD at r
    obtain ⟨a, us, e, hl, rd⟩ := r
    exact ⟨a, us, e, .inr hl, rd⟩
theorem r2s_inI {x : Int} {xs : List Int} {neg : Bool} (s : SrcQ Γ t (xs.map .int)) (hK : X.K = C.K) : R2S C Γ Ts (.im (.int x)) t (rIn X.K neg) Γ (.im (.bl (if neg then !decide (x ∈ xs) else decide (x ∈ xs)))) := fun σ vs u y H hA Q q => by
  obtain ⟨a, us, rfl, hq, rd⟩ := hA.srcQ s
  have ex := hA.pop.topIm
  unfold rD at ex
  subst ex
  rw [rDs_ints rd] at hq
  refine ⟨a, _, rfl, by rw [hK]; exact hq, rfl, flat_ints xs, q _ H (hA.pop.pop.pushIm Ext.refl ?_)⟩
  unfold rD
  rw [inV_ints]
theorem et_inI {x : Int} {xs : List Int} (h1 : EE X C Γ Ts a Γ1 (.im (.int x))) (h2 : EE X C Γ1 (Ts ++ [.im (.int x)]) b Γ2 t) (s : SrcQ Γ2 t (xs.map .int)) (hm : behindInMarks .In b = false := by rfl) (hK : X.K = C.K := by rfl) : ET X C Γ Ts (.Compare a [.In] [b] pos) Γ2 (decide (x ∈ xs)) := et_cmp op_in_seq hm h1 h2 (r2s_inI s hK)
theorem et_ninI {x : Int} {xs : List Int} (h1 : EE X C Γ Ts a Γ1 (.im (.int x))) (h2 : EE X C Γ1 (Ts ++ [.im (.int x)]) b Γ2 t) (s : SrcQ Γ2 t (xs.map .int)) (hm : behindInMarks .NotIn b = false := by rfl) (hK : X.K = C.K := by rfl) : ET X C Γ Ts (.Compare a [.NotIn] [b] pos) Γ2 (!decide (x ∈ xs)) := et_cmp op_notIn_seq hm h1 h2 (r2s_inI s hK)
/-! ### a list that never changes is walked -/
theorem it_lstF (h : EE X C Γ Hs iter Γ1 (.im (.lst ds))) (hK : X.K = C.K := by rfl) : IT X C Hs tg iter Γ Γ1 (fun v => .hid (.im (.lst ds)) v) (fun _ => True) ds := (pi_list h).wk fun σ H R ⟨hs, h0, q⟩ => ⟨hs, h0, fun v H1 h1 => by
  obtain ⟨a, us, e, hl, rd⟩ := h1.src .fz
  subst e
  refine ⟨a, rfl, ⟨us, by rw [hK]; exact hl⟩, q (.ref a) _ H1 h1.hide ⟨_, _, (by rw [hK]; exact walk_lst), ?_, ?_⟩⟩
  · intro Γ' σ' hs' H' _ hA
    obtain ⟨F, ⟨_, r⟩, _⟩ := hA.top
    unfold rM at r
    have r := r.1
    unfold rD at r
    obtain ⟨a', us', e', hl', rd'⟩ := r
    cases e'
    exact ⟨us', hl'.sq, rd'⟩
  · rintro i H' x H'' hi _ ⟨e1, d, hd, rd⟩
    subst e1
    exact ⟨Ext.refl, d, hd, rd⟩⟩
/-! ### calls by names, of data alone -/
abbrev EKw (X : Cx) (C : Cn) (Γ : Ctx) (Ts : List T) (es : List Keyword) (Γ' : Ctx) (ts : List T) : Prop := PK X es (ar C Γ Ts Γ' ts)
theorem _root_.L2.PK.wk {X : Cx} {e : List Keyword} {t t' : TA} (h : PK X e t) (w : ∀ σ H Q, t' σ H Q → t σ H Q) : PK X e t' := ⟨fun pos pins s σ H Q I q => h.run pos pins s σ H Q I (w _ _ _ q)⟩
theorem ek_nil : EKw X C Γ Ts [] Γ [] := pk_nil.wk fun σ H Q ⟨vs, h, q⟩ => q [] H rfl (by simpa using h)
theorem ek_cons {nmk : Option Str} (h1 : EE X C Γ Ts e Γ1 t) (h2 : EKw X C Γ1 (Ts ++ [t]) kws Γ2 ts) : EKw X C Γ Ts (⟨nmk, e, kp⟩ :: kws) Γ2 (t :: ts) := (pk_cons h1 h2).wk fun σ H Q ⟨vs, h, q⟩ =>
  ⟨vs, h, fun v H1 h1 => ⟨vs ++ [v], h1, fun us H2 hl h2 => q (v :: us) H2 (by simp [hl]) (by simpa using h2)⟩⟩
theorem spR_im {n : Nat} {rel : List M → M → List M → Prop} {σ : L2.St} {vs us : List V} {H : Hp} {Q : VK} (hK : X.K = C.K) (hn : ds.length = n) (rd : rDs C.K ds us H) (hrel : rel (ds.map M.im) rm []) (h : As C Γ Ts σ vs H) (q : ∀ v H', As C Γ (Ts ++ [.own rm]) σ (vs ++ [v]) H' → Q v H') : spR X.K n [] rel us H Q E0 := by
  rw [hK]
  refine ⟨ds.map .im, e0, rm, [], by rw [rd.len]; exact hn, rMs.im rd (fun _ z => z), hrel, rfl, fun v H' F' h1 h2 h3 => q v H' ?_⟩
  have ex : Ext H H' := fun a o z => h3 a o z fun z => z
  unfold rMs at h1
  obtain ⟨w, ws, F1, F2, e, r1, r2, _, hF⟩ := h1
  cases e
  refine h.push ex (t := .own rm) (F := F1) r1 (fun a ha => ?_) fun a ha => rM.mut r1 ha
  rcases h2 a ((hF a).2 (.inl ha)) with z | z
  · exact z.elim
  · exact z
theorem ee_callK0 {k n : Nat} {f : Addr} {fd : FuncData} {ps ks : List Str} {x : Str} {gV : List V → List V → List V} {g : List Value → List Value → List Value} {rel : List M → M → List M → Prop}
    (F : FnG X.prog X.w X.K X.mg X.base k f fd ps (spR X.K n [] rel)) (hr : Room k X.A) (hG : X.A.guards = some []) (hm : X.mg x = some (.ref f)) (hk : PySem.W.keepIn X.K (.ref f) = true) (hb : KBinds X.K fd ps ks g gV)
    (h : EKw X C Γ Ts kws Γ1 (ds2.map T.im)) (hg2 : ∀ zs H, rDs C.K ds2 zs H → rDs C.K ds (gV [] zs) H) (hn : ds.length = n) (hrel : rel (ds.map M.im) rm []) (hg : Gl X x := by rfl) (hK : X.K = C.K := by rfl) (hall : (backToKw pos (keywordEach kws X.env)).all (·.1.isSome) = true := by rfl) (hks : (backToKw pos (keywordEach kws X.env)).filterMap (·.1) = ks := by rfl)
    (hdb : (x == ("__debug__" : Str)) = false := by decide) (hpl : ((backTo pos (starEach [] X.env)).any (·.1) || (backToKw pos (keywordEach kws X.env)).any (·.1.isNone)) = false := by rfl) :
    EE X C Γ Ts (.Call (.Name x p) [] kws pos) Γ1 (.own rm) :=
  (pe_callGK0 F hr hG hg hm hk hb h hall hks hdb hpl).wk fun σ H Q ⟨vs, h, q⟩ => ⟨vs, h, fun zs H1 hl h1 => by
    obtain ⟨rd, h2⟩ := As.ims (by simpa using hl) h1
    exact spR_im hK hn (hg2 zs H1 rd) hrel h2 q⟩
end
/-- how a def without defaults takes names -/
theorem kbinds_of {K : PySem.W.Frag} {x qual : Str} {params : Arguments} {body : List Stmt} {scope : Scope} {f : Addr} {fd : FuncData} {ps ks : List Str} {g : List Value → List Value → List Value} {gV : List V → List V → List V} (F : FunD K x qual params body scope [] [] f fd)
    (h : ∀ (kV doc pm : Value) (an : Option Addr) (cdv ct : Value) (us ws : List Value), (g us ws).length = ps.length → bindArgs (PySem.W.fnOf x qual params body scope .none kV doc pm an cdv ct) ⟨us, ks.zip ws⟩ = pure (ps.zip (g us ws)))
    (hr : ∀ {vs : List V} {us : List Value} {zs : List V} {ws : List Value}, Vals vs us → Vals zs ws → Vals (gV vs zs) (g us ws)) : KBinds K fd ps ks g gV := by
  obtain ⟨oc, od, dV, kV, doc, pm, an, cdv, ct, osl, rfl, lk, hcd, hD, hK⟩ := F.ex
  rcases hD with ⟨_, rfl⟩ | ⟨e, _⟩
  · exact ⟨fun s us ws _ hl => .of_eq (h kV doc pm an cdv ct us ws hl), hr⟩
  · exact absurd rfl e
end RL

set_option maxHeartbeats 2000000
/-! RL12: the end of a law -/
namespace RL
open PySem L2 PySem.Spec PyProof.Rows

end RL

set_option maxHeartbeats 2000000
/-! RL13: what lies within a slot: dicts, lists of lists -/
namespace RL
open PySem L2

/-- what stands at a key, first of its kind -/
def getM : List (Key × M) → Key → Option M
  | [], _ => none
  | (k, m) :: l, x => if k = x then some m else getM l x
def updM : List (Key × M) → Key → M → List (Key × M)
  | [], _, _ => []
  | (k, m) :: l, x, m' => if k = x then (k, m') :: l else (k, m) :: updM l x m'
theorem valV_cons {k x : Key} {v : V} {r : List (Key × V)} : valV ((k, v) :: r) x = if k = x then some v else valV r x := by
  by_cases h : k = x
  · rw [if_pos h]; exact valV_pos h
  · rw [if_neg h]; exact valV_neg h
section
variable {K : PySem.W.Frag} {H : Hp}
theorem rMk.zoom {k : Key} {m : M} : ∀ {ks : List (Key × M)} {kvs : List (Key × V)} {F : FS}, rMk K ks kvs H F → getM ks k = some m →
    ∃ v F1, valV kvs k = some v ∧ rM K m v H F1 ∧ (∀ a, F1 a → F a) ∧ ∀ m' H' F1', TF H H' → (∀ a, F a → ¬ F1 a → H' a = H a) → rM K m' v H' F1' → (∀ a, F1' a → F1 a ∨ ¬ F a) →
      ∃ F', rMk K (updM ks k m') kvs H' F' ∧ ∀ a, F' a → (F a ∧ ¬ F1 a) ∨ F1' a
  | [], kvs, F, h, e => by cases e
  | (x, m0) :: ks, kvs, F, h, e => by
    unfold rMk at h
    obtain ⟨w, ws, Fa, Fb, rfl, r1, r2, dj, f⟩ := h
    unfold getM at e
    by_cases hx : x = k
    · rw [if_pos hx] at e
      cases e
      refine ⟨w, Fa, by rw [valV_cons, if_pos hx], r1, fun a z => (f a).2 (.inl z), fun m' H' F1' tf keep r n => ⟨fun a => F1' a ∨ Fb a, ?_, ?_⟩⟩
      · unfold updM
        rw [if_pos hx]
        unfold rMk
        refine ⟨w, ws, F1', Fb, rfl, r, rMk.st tf (fun a ha => keep a ((f a).2 (.inr ha)) fun z => dj a z ha) r2, fun a z1 z2 => ?_, fun a => Iff.rfl⟩
        rcases n a z1 with z | z
        · exact dj a z z2
        · exact z ((f a).2 (.inr z2))
      · intro a z
        rcases z with z | z
        · exact .inr z
        · exact .inl ⟨(f a).2 (.inr z), fun y => dj a y z⟩
    · rw [if_neg hx] at e
      obtain ⟨v, F1, hv, rv, hs, q⟩ := rMk.zoom r2 e
      refine ⟨v, F1, by rw [valV_cons, if_neg hx]; exact hv, rv, fun a z => (f a).2 (.inr (hs a z)), fun m' H' F1' tf keep r n => ?_⟩
      obtain ⟨F2, r2', n2⟩ := q m' H' F1' tf (fun a z1 z2 => keep a ((f a).2 (.inr z1)) z2) r fun a z => (n a z).elim .inl fun y => .inr fun x => y ((f a).2 (.inr x))
      refine ⟨fun a => Fa a ∨ F2 a, ?_, ?_⟩
      · unfold updM
        rw [if_neg hx]
        unfold rMk
        refine ⟨w, ws, Fa, F2, rfl, rM.st tf (fun a ha => keep a ((f a).2 (.inl ha)) fun z => dj a ha (hs a z)) r1, r2', fun a z1 z2 => ?_, fun a => Iff.rfl⟩
        rcases n2 a z2 with z | z
        · exact dj a z1 z.1
        · rcases n a z with y | y
          · exact dj a z1 (hs a y)
          · exact y ((f a).2 (.inl z1))
      · intro a z
        rcases z with z | z
        · exact .inl ⟨(f a).2 (.inl z), fun y => dj a z (hs a y)⟩
        · exact (n2 a z).imp (fun y => ⟨(f a).2 (.inr y.1), y.2⟩) id
theorem rMs.zoom {m : M} : ∀ {ms : List M} {us : List V} {F : FS} {j : Nat}, rMs K ms us H F → ms[j]? = some m →
    ∃ v F1, us[j]? = some v ∧ rM K m v H F1 ∧ (∀ a, F1 a → F a) ∧ ∀ m' H' F1', TF H H' → (∀ a, F a → ¬ F1 a → H' a = H a) → rM K m' v H' F1' → (∀ a, F1' a → F1 a ∨ ¬ F a) →
      ∃ F', rMs K (ms.set j m') us H' F' ∧ ∀ a, F' a → (F a ∧ ¬ F1 a) ∨ F1' a
  | [], us, F, j, h, e => by simp at e
  | m0 :: ms, us, F, 0, h, e => by
    unfold rMs at h
    obtain ⟨w, ws, Fa, Fb, rfl, r1, r2, dj, f⟩ := h
    cases e
    refine ⟨w, Fa, rfl, r1, fun a z => (f a).2 (.inl z), fun m' H' F1' tf keep r n => ⟨fun a => F1' a ∨ Fb a, ?_, ?_⟩⟩
    · rw [List.set_cons_zero]
      unfold rMs
      refine ⟨w, ws, F1', Fb, rfl, r, rMs.st tf (fun a ha => keep a ((f a).2 (.inr ha)) fun z => dj a z ha) r2, fun a z1 z2 => ?_, fun a => Iff.rfl⟩
      rcases n a z1 with z | z
      · exact dj a z z2
      · exact z ((f a).2 (.inr z2))
    · intro a z
      rcases z with z | z
      · exact .inr z
      · exact .inl ⟨(f a).2 (.inr z), fun y => dj a y z⟩
  | m0 :: ms, us, F, j + 1, h, e => by
    unfold rMs at h
    obtain ⟨w, ws, Fa, Fb, rfl, r1, r2, dj, f⟩ := h
    obtain ⟨v, F1, hv, rv, hs, q⟩ := rMs.zoom (j := j) r2 (by simpa using e)
    refine ⟨v, F1, by simpa using hv, rv, fun a z => (f a).2 (.inr (hs a z)), fun m' H' F1' tf keep r n => ?_⟩
    obtain ⟨F2, r2', n2⟩ := q m' H' F1' tf (fun a z1 z2 => keep a ((f a).2 (.inr z1)) z2) r fun a z => (n a z).elim .inl fun y => .inr fun x => y ((f a).2 (.inr x))
    refine ⟨fun a => Fa a ∨ F2 a, ?_, ?_⟩
    · rw [List.set_cons_succ]
      unfold rMs
      refine ⟨w, ws, Fa, F2, rfl, rM.st tf (fun a ha => keep a ((f a).2 (.inl ha)) fun z => dj a ha (hs a z)) r1, r2', fun a z1 z2 => ?_, fun a => Iff.rfl⟩
      rcases n2 a z2 with z | z
      · exact dj a z1 z.1
      · rcases n a z with y | y
        · exact dj a z1 (hs a y)
        · exact y ((f a).2 (.inl z1))
    · intro a z
      rcases z with z | z
      · exact .inl ⟨(f a).2 (.inl z), fun y => dj a z (hs a y)⟩
      · exact (n2 a z).imp (fun y => ⟨(f a).2 (.inr y.1), y.2⟩) id
end

/-- a step into what a slot holds -/
inductive Sp1 where
  | k (k : Key) | i (n : Int)
def Sp1.d : Sp1 → D
  | .k (.inl n) => .int n
  | .k (.inr x) => .str x
  | .i n => .int n
def Sp1.v : Sp1 → V
  | .k x => kV x
  | .i n => .int n
theorem Sp1.rd {K : PySem.W.Frag} {H : Hp} {s : Sp1} {y : V} (h : rD K s.d y H) : y = s.v := by
  rcases s with (n | x) | n <;> (unfold Sp1.d rD at h; exact h)
/-- what lies there -/
def M.sub : M → Sp1 → Option M
  | .dk ks, .k k => getM ks k
  | .ll ms, .i n => atI ms n
  | .li ds, .i n => (atI ds n).map .im
  | _, _ => none
def setI {α : Type} (xs : List α) (n : Int) (x : α) : List α := match ixN xs.length n with
  | some j => xs.set j x
  | none => xs
/-- something else there, in its place -/
def M.chg : M → Sp1 → M → M
  | .dk ks, .k k, m => .dk (updM ks k m)
  | .ll ms, .i n, m => .ll (setI ms n m)
  | m, _, _ => m
def VS (H : Hp) (s : Sp1) (v u : V) : Prop := match s with
  | .k k => ∃ p kvs, v = .ref p ∧ H p = some (.dK kvs) ∧ valV kvs k = some u
  | .i n => ∃ p us, v = .ref p ∧ H p = some (.lst us) ∧ atI us n = some u
theorem rM.zoom {K : PySem.W.Frag} {H : Hp} {m m1 : M} {s : Sp1} {v : V} {F : FS} (h : rM K m v H F) (e : m.sub s = some m1) (nim : ∀ ds, m ≠ .li ds) :
    ∃ u F1, VS H s v u ∧ rM K m1 u H F1 ∧ (∀ a, F1 a → F a) ∧ ∀ m' H' F1', TF H H' → (∀ a, F a → ¬ F1 a → H' a = H a) → rM K m' u H' F1' → (∀ a, F1' a → F1 a ∨ ¬ F a) →
      ∃ F', rM K (m.chg s m') v H' F' ∧ ∀ a, F' a → (F a ∧ ¬ F1 a) ∨ F1' a := by
  cases m with
  | im d => cases e
  | dt w l => cases e
  | ab A => cases e
  | li ds => exact absurd rfl (nim ds)
  | ll ms =>
    cases s with
    | k k => cases e
    | i n =>
      unfold rM at h
      obtain ⟨a, us, F0, rfl, ho, r, hn, f⟩ := h
      have e : atI ms n = some m1 := e
      unfold atI at e
      cases q : ixN ms.length n with
      | none => rw [q] at e; cases e
      | some j =>
        rw [q] at e
        obtain ⟨u, F1, hu, ru, hs, z⟩ := r.zoom e
        refine ⟨u, F1, ⟨a, us, rfl, ho, by unfold atI; rw [r.len, q]; exact hu⟩, ru, fun b y => (f b).2 (.inr (hs b y)), fun m' H' F1' tf keep r' n' => ?_⟩
        obtain ⟨F2, r2, n2⟩ := z m' H' F1' tf (fun b y1 y2 => keep b ((f b).2 (.inr y1)) y2) r' fun b y => (n' b y).imp id fun y2 y3 => y2 ((f b).2 (.inr y3))
        have na : ¬ F2 a := fun y => by
          rcases n2 a y with y | y
          · exact hn y.1
          · rcases n' a y with y | y
            · exact hn (hs a y)
            · exact y ((f a).2 (.inl rfl))
        refine ⟨fun b => b = a ∨ F2 b, ?_, fun b y => ?_⟩
        · have e2 : setI ms n m' = ms.set j m' := by unfold setI; rw [q]
          show rM K (.ll (setI ms n m')) _ _ _
          rw [e2]
          unfold rM
          exact ⟨a, us, F2, rfl, (keep a ((f a).2 (.inl rfl)) fun y => hn (hs a y)).trans ho, r2, na, fun b => Iff.rfl⟩
        · rcases y with y | y
          · subst y; exact .inl ⟨(f b).2 (.inl rfl), fun y => hn (hs b y)⟩
          · exact (n2 b y).imp (fun y => ⟨(f b).2 (.inr y.1), y.2⟩) id
  | dk ks =>
    cases s with
    | i n => cases e
    | k k =>
      unfold rM at h
      obtain ⟨a, kvs, F0, rfl, ho, r, hn, f⟩ := h
      obtain ⟨u, F1, hu, ru, hs, z⟩ := r.zoom (show getM ks k = some m1 from e)
      refine ⟨u, F1, ⟨a, kvs, rfl, ho, hu⟩, ru, fun b y => (f b).2 (.inr (hs b y)), fun m' H' F1' tf keep r' n' => ?_⟩
      obtain ⟨F2, r2, n2⟩ := z m' H' F1' tf (fun b y1 y2 => keep b ((f b).2 (.inr y1)) y2) r' fun b y => (n' b y).imp id fun y2 y3 => y2 ((f b).2 (.inr y3))
      have na : ¬ F2 a := fun y => by
        rcases n2 a y with y | y
        · exact hn y.1
        · rcases n' a y with y | y
          · exact hn (hs a y)
          · exact y ((f a).2 (.inl rfl))
      refine ⟨fun b => b = a ∨ F2 b, ?_, fun b y => ?_⟩
      · show rM K (.dk (updM ks k m')) _ _ _
        unfold rM
        exact ⟨a, kvs, F2, rfl, (keep a ((f a).2 (.inl rfl)) fun y => hn (hs a y)).trans ho, r2, na, fun b => Iff.rfl⟩
      · rcases y with y | y
        · subst y; exact .inl ⟨(f b).2 (.inl rfl), fun y => hn (hs b y)⟩
        · exact (n2 b y).imp (fun y => ⟨(f b).2 (.inr y.1), y.2⟩) id

/-- how a subscription by the step reads -/
def SubR (X : Cx) (s : Sp1) (r : R2) : Prop := (∀ {a b : Expr} {pos : Pos} {ta tb : TE}, PE X a ta → PE X b tb → PlainIx b → PE X (.Subscript a b pos) (tOp r ta tb)) ∧ ∀ H v u Q, VS H s v u → Q u H → r v s.v H Q
theorem sub_i {X : Cx} {n : Int} : SubR X (.i n) (rIxL X.K) := ⟨fun ha hb hs => pe_ix ix_list ha hb hs, fun H v u Q ⟨p, us, e, ho, hv⟩ q => ⟨p, us, n, u, e, rfl, SqL.of ho, hv, q⟩⟩

section
variable {X : Cx} {C : Cn} {Γ Γ1 Γ2 Γ3 Γ' : Ctx} {Ts Hs : List T} {t t1 t2 t3 : T} {ts : List T} {e a b c nm : Expr} {es rest : List Expr} {pos p apos cpos : Pos} {i j : Nat} {d d1 d2 d3 : D} {ds ds' : List D} {m : M} {b1 b2 k : Bool} {s : Sp1} {r : R2}
theorem As.zoom {σ : L2.St} {vs : List V} {H : Hp} {m1 : M} (h : As C Γ Ts σ vs H) (hj : Γ[j]? = some (some m)) (e : m.sub s = some m1) : ∃ v u, σ[j]? = some (some v) ∧ VS H s v u ∧ (∃ F1, rM C.K m1 u H F1) := by
  obtain ⟨v, F, hv, r, _⟩ := h.slot hj
  by_cases z : ∃ ds, m = .li ds
  · obtain ⟨ds, rfl⟩ := z
    cases s with
    | k k => cases e
    | i n =>
      unfold rM at r
      obtain ⟨a, us, rfl, ho, rd, f⟩ := r
      have e : (atI ds n).map M.im = some m1 := e
      cases q : atI ds n with
      | none => rw [q] at e; cases e
      | some d =>
        rw [q] at e
        cases e
        obtain ⟨u, hu, ru⟩ := rd.at q
        exact ⟨_, u, hv, ⟨a, us, rfl, ho, hu⟩, e0, by unfold rM; exact ⟨ru, fun _ y => y⟩⟩
  · obtain ⟨u, F1, hu, ru, _⟩ := r.zoom e fun ds z2 => z ⟨ds, z2⟩
    exact ⟨v, u, hv, hu, F1, ru⟩
/-- the list within the slot j becomes another one -/
theorem As.zset {σ : L2.St} {vs : List V} {H : Hp} (h : As C Γ Ts σ vs H) (hj : Γ[j]? = some (some m)) (e : m.sub s = some (.li ds)) : ∃ v a us, σ[j]? = some (some v) ∧ VS H s v (.ref a) ∧ H a = some (.lst us) ∧ rDs C.K ds us H ∧
    ∀ us' ds', rDs C.K ds' us' H → As C (Γ.set j (some (m.chg s (.li ds')))) Ts σ vs (upd H a (.lst us')) := by
  obtain ⟨v, F, hv, r, q⟩ := h.slot hj
  have nim : ∀ l, m ≠ .li l := fun l z => by
    subst z
    cases s with
    | k k => cases e
    | i n =>
      have e : (atI l n).map M.im = some (.li ds) := e
      cases q : atI l n with
      | none => rw [q] at e; cases e
      | some d => rw [q] at e; cases e
  obtain ⟨u, F1, hu, ru, hs, z⟩ := r.zoom e nim
  have ru' := ru
  unfold rM at ru
  obtain ⟨a, us, rfl, ho, rd, f⟩ := ru
  refine ⟨v, a, us, hv, hu, ho, rd, fun us' ds' rd' => ?_⟩
  have mu : Mut (H a) := by rw [ho]; trivial
  have tf : TF H (upd H a (.lst us')) := TF.write mu
  obtain ⟨F', r', n'⟩ := z (.li ds') (upd H a (.lst us')) F1 tf (fun b _ nb => upd_ne fun y => nb ((f b).2 y)) (by
    unfold rM
    exact ⟨a, us', rfl, upd_same, rd'.tf tf, f⟩) fun b y => .inl y
  refine q _ _ F' tf (fun b nb _ => upd_ne fun y => nb (hs b ((f b).2 y))) r' fun b y => ?_
  rcases n' b y with y | y
  · exact .inl y.1
  · exact .inl (hs b y)
/-- x[k], a datum -/
theorem ee_at (j : Nat) (S : SubR X s r) (hn : PE X nm (tVar j)) (hj : Γ[j]? = some (some m)) (hb : EE X C Γ (Ts ++ [.al j]) b Γ (.im s.d)) (e : m.sub s = some (.im d)) (hs : PlainIx b := by exact fun _ _ => rfl) : EE X C Γ Ts (.Subscript nm b pos) Γ (.im d) :=
  op_wk (ee_al j hn hj) hb (fun σ vs x y H hA Q q => by
    have ey := Sp1.rd hA.topIm
    subst ey
    obtain ⟨F, ⟨hσ, _⟩, _⟩ := hA.pop.top
    obtain ⟨v, u, hv, hu, F1, ru⟩ := hA.pop.pop.zoom hj e
    rw [hσ] at hv
    cases hv
    unfold rM at ru
    exact S.2 H x u Q hu (q u H (hA.pop.pop.pushIm Ext.refl ru.1))) (S.1 (ee_al (C := C) (Γ := Γ) (Ts := Ts) j hn hj) hb hs)
/-- evaluation that leaves the heap as it is -/
def EQ (X : Cx) (C : Cn) (Γ : Ctx) (e : Expr) (d : D) : Prop := ∃ te, PE X e te ∧ ∀ σ H Ts vs (Q : VK), As C Γ Ts σ vs H → (∀ v, rD C.K d v H → Q v H) → te σ H Q
theorem eq_var (i : Nat) (h : PE X e (tVar i)) (hi : Γ[i]? = some (some (.im d)) := by rfl) : EQ X C Γ e d := ⟨_, h, fun σ H Ts vs Q hA q => by
  obtain ⟨v, hv, r⟩ := hA.slotIm hi
  exact ⟨v, hv, q v r⟩⟩
theorem eq_int {n : Int} {j} : EQ X C Γ (.Constant (.int n) j pos) (.int n) := ⟨_, pe_int, fun σ H Ts vs Q hA q => q _ (by unfold rD; rfl)⟩
theorem eq_fdivW {n n' : Int} (hc : CDivW n n') (h1 : EQ X C Γ a (.int n)) (h2 : EQ X C Γ b (.int n')) : EQ X C Γ (.BinOp a .FloorDiv b pos) (.int (n / n')) := by
  obtain ⟨t1, p1, q1⟩ := h1
  obtain ⟨t2, p2, q2⟩ := h2
  refine ⟨_, pe_op op_fdivW p1 p2, fun σ H Ts vs Q hA q => q1 σ H Ts vs _ hA fun v r => q2 σ H Ts vs _ hA fun w r' => ?_⟩
  unfold rD at r r'
  exact ⟨n, n', r, r', hc, q _ (by unfold rD; rfl)⟩
/-- x[k] != [] -/
theorem et_neNilZ (hu : X.A.units + 64 < cLine) (j : Nat) (S : SubR X s r) (hn : PE X nm (tVar j)) (hj : Γ[j]? = some (some m)) (hb : EE X C Γ (Ts ++ [.al j]) b Γ (.im s.d)) (e : m.sub s = some (.li ds)) (ho : oks ds = true) {q1 : Pos} (hs : PlainIx b := by exact fun _ _ => rfl) (hK : X.K = C.K := by rfl) :
    ET X C Γ Ts (.Compare (.Subscript nm b p) [.NotEq] [.List [] q1] pos) Γ (!ds.isEmpty) :=
  (pt_cmpR (op_neB hu) (S.1 (ee_al (C := C) (Γ := Γ) (Ts := Ts) j hn hj) hb hs) (pe_lst pa_nil) (nomark _)).wk fun σ H Q ⟨vs, h, q⟩ => ⟨vs, h, fun v H1 h1 => ⟨vs ++ [v], h1, fun y H2 h2 => by
    have ey := Sp1.rd h2.topIm
    subst ey
    obtain ⟨F, ⟨hσ, _⟩, _⟩ := h2.pop.top
    obtain ⟨v', u, hv, hu', F1, ru⟩ := h2.pop.pop.zoom hj e
    rw [hσ] at hv
    cases hv
    unfold rM at ru
    obtain ⟨a, us, rfl, hl, rd, _⟩ := ru
    refine S.2 H2 v (.ref a) _ hu' ⟨Nat.zero_le _, fun w hw => ⟨_, _, ?_, ?_, by unfold PyData.canLay0; exact oks_lay ho, ?_, dep_nil (.list (ps ds)), ⟨_, rfl, ?_⟩⟩⟩
    · exact .l ho (SqL.of ((upd_ne fun z => by subst z; rw [hl] at hw; cases hw).trans hl)) (by rw [hK]; exact rd.tf (Ext.new hw).tf)
    · exact .l (l := []) (by unfold oks; rfl) (SqL.of upd_same) (by unfold rDs; rfl)
    · unfold ps PyData.canLay0 PyData.canLayAll0; rfl
    · rw [eqv_nil]
      exact q _ (h2.pop.pop.ext (Ext.new hw))⟩⟩
/-- x[k].pop() -/
theorem ee_popZ (j : Nat) (S : SubR X s r) (hn : PE X nm (tVar j)) (hj : Γ[j]? = some (some m)) (hb : EE X C Γ (Ts ++ [.al j]) b Γ (.im s.d)) (e : m.sub s = some (.li ds)) (hd : ds.getLast? = some d) (hs : PlainIx b := by exact fun _ _ => rfl)
    (hbase : attributeBase (.Subscript nm b p) "pop" X.env (eval (.Subscript nm b p) X.env) = eval (.Subscript nm b p) X.env := by rfl) (hline : (apos.endLine == cpos.line) = true := by rfl) :
    EE X C Γ Ts (.Call (.Attribute (.Subscript nm b p) "pop" apos) [] [] cpos) (Γ.set j (some (m.chg s (.li ds.dropLast)))) (.im d) := by
  refine (pe_bm0 PySem.F.plainAttrs_list PySem.F.slot_list_pop PySem.F.type_list_pop mt_pop (S.1 (ee_al (C := C) (Γ := Γ) (Ts := Ts) j hn hj) hb hs) hbase hline).wk fun σ H Q ⟨vs, h, q⟩ => ⟨vs, h, fun v H1 h1 => ⟨vs ++ [v], h1, fun y H2 h2 => ?_⟩⟩
  have ey := Sp1.rd h2.topIm
  subst ey
  obtain ⟨F, ⟨hσ, _⟩, _⟩ := h2.pop.top
  obtain ⟨v', a, us, hv, hz, hl, rd, put⟩ := h2.pop.pop.zset hj e
  rw [hσ] at hv
  cases hv
  refine S.2 H2 v (.ref a) _ hz ?_
  have hd' : ds[ds.length - 1]? = some d := by rw [← List.getLast?_eq_getElem?]; exact hd
  obtain ⟨u, hu, ru⟩ := rd.get hd'
  have rdl : rDs C.K ds.dropLast us.dropLast H2 := by
    rw [List.dropLast_eq_take, List.dropLast_eq_take, rd.len]
    exact rd.take _
  refine ⟨tyV_lst hl, a, us, u, rfl, rfl, hl, by rw [rd.len]; exact hu, q _ _ ((put _ _ rdl).pushIm Ext.refl (ru.tf (TF.write ?_)))⟩
  rw [hl]
  trivial
/-- x[k].append(e), e leaving the heap as it is -/
theorem ee_appZ (j : Nat) (S : SubR X s r) (hn : PE X nm (tVar j)) (hj : Γ[j]? = some (some m)) (hb : EE X C Γ (Ts ++ [.al j]) b Γ (.im s.d)) (e1 : m.sub s = some (.li ds)) (he : EQ X C Γ e d) (hlen : ds.length < sizeLine) (hs : PlainIx b := by exact fun _ _ => rfl)
    (hbase : attributeBase (.Subscript nm b p) "append" X.env (eval (.Subscript nm b p) X.env) = eval (.Subscript nm b p) X.env := by rfl)
    (hfew : ((backTo cpos (starEach [e] X.env)).all (fun x => !x.1) && (backToKw cpos (keywordEach [] X.env)).all (fun x => x.1.isSome)
      && decide ([e].length + ([] : List Keyword).length + (if ([] : List Keyword).isEmpty then 0 else 1) < 30)) = true := by rfl)
    (hline : (apos.endLine == cpos.line) = true := by rfl) (hst : starEach [e] X.env = (false, eval e X.env) :: starEach [] X.env := by rfl) (hplain : (backTo cpos (starEach [] X.env)).any (·.1) = false := by rfl) :
    EE X C Γ Ts (.Call (.Attribute (.Subscript nm b p) "append" apos) [e] [] cpos) (Γ.set j (some (m.chg s (.li (ds ++ [d]))))) (.im .non) := by
  obtain ⟨te, pe, hte⟩ := he
  refine (pe_bm PySem.F.plainAttrs_list PySem.F.slot_list_append PySem.F.type_list_append mt_append (S.1 (ee_al (C := C) (Γ := Γ) (Ts := Ts) j hn hj) hb hs) (pa_cons pe pa_nil hst) hbase hfew hline hst hplain).wk fun σ H Q ⟨vs, h, q⟩ => ⟨vs, h, fun v H1 h1 => ⟨vs ++ [v], h1, fun y H2 h2 => ?_⟩⟩
  have ey := Sp1.rd h2.topIm
  subst ey
  obtain ⟨F, ⟨hσ, _⟩, _⟩ := h2.pop.top
  obtain ⟨v', a, us, hv, hz, hl, rd, put⟩ := h2.pop.pop.zset hj e1
  rw [hσ] at hv
  cases hv
  refine S.2 H2 v (.ref a) _ hz ⟨tyV_lst hl, hte σ H2 Ts vs _ h2.pop.pop fun u ru => ?_⟩
  exact ⟨a, us, u, rfl, rfl, hl, by rw [rd.len]; exact hlen, q _ _ ((put _ _ (rd.app (.one ru))).pushIm Ext.refl (by unfold rD; rfl))⟩
end

/-! ### a datum is stored at a key -/
theorem rMk.len {K : PySem.W.Frag} {H : Hp} : ∀ {ks : List (Key × M)} {kvs : List (Key × V)} {F : FS}, rMk K ks kvs H F → kvs.length = ks.length
  | [], kvs, F, h => by unfold rMk at h; rw [h.1] <;> rfl
  | (x, m) :: ks, kvs, F, h => by
    unfold rMk at h
    obtain ⟨w, ws, _, _, rfl, _, r2, _, _⟩ := h
    rw [List.length_cons, List.length_cons, r2.len]
theorem rMk.map {K : PySem.W.Frag} {H : Hp} {k : Key} {d : D} {v : V} (r : rD K d v H) : ∀ {ks : List (Key × M)} {kvs : List (Key × V)} {F : FS}, rMk K ks kvs H F →
    ∃ F', rMk K (ks.map fun kv => if kv.1 = k then (kv.1, .im d) else kv) (kvs.map fun kv => if kv.1 = k then (kv.1, v) else kv) H F' ∧ ∀ a, F' a → F a
  | [], kvs, F, h => by
    unfold rMk at h
    rw [h.1]
    exact ⟨e0, by unfold rMk; exact ⟨rfl, fun _ z => z⟩, fun a z => z.elim⟩
  | (x, m) :: ks, kvs, F, h => by
    unfold rMk at h
    obtain ⟨w, ws, Fa, Fb, rfl, r1, r2, dj, f⟩ := h
    obtain ⟨F2, r2', n2⟩ := rMk.map r r2
    rw [List.map_cons, List.map_cons]
    by_cases hx : x = k
    · rw [if_pos hx, if_pos hx]
      refine ⟨F2, ?_, fun a z => (f a).2 (.inr (n2 a z))⟩
      unfold rMk
      exact ⟨v, _, e0, F2, rfl, by unfold rM; exact ⟨r, fun _ z => z⟩, r2', Dj.e0l, fun a => ⟨.inr, fun z => z.elim (fun y => y.elim) id⟩⟩
    · rw [if_neg hx, if_neg hx]
      refine ⟨fun a => Fa a ∨ F2 a, ?_, fun a z => z.elim (fun y => (f a).2 (.inl y)) fun y => (f a).2 (.inr (n2 a y))⟩
      unfold rMk
      exact ⟨w, _, Fa, F2, rfl, r1, r2', fun a y1 y2 => dj a y1 (n2 a y2), fun a => Iff.rfl⟩
theorem rMk.snoc {K : PySem.W.Frag} {H : Hp} {k : Key} {m : M} {v : V} {G : FS} (r : rM K m v H G) : ∀ {ks : List (Key × M)} {kvs : List (Key × V)} {F : FS}, rMk K ks kvs H F → Dj F G →
    rMk K (ks ++ [(k, m)]) (kvs ++ [(k, v)]) H (fun a => F a ∨ G a)
  | [], kvs, F, h, dj => by
    unfold rMk at h
    rw [h.1]
    show rMk K [(k, m)] [(k, v)] H _
    unfold rMk
    exact ⟨v, [], G, e0, rfl, r, by unfold rMk; exact ⟨rfl, fun _ z => z⟩, Dj.e0r, fun a => ⟨fun z => z.elim (fun y => absurd y (h.2 a)) .inl, fun z => z.elim .inr fun y => y.elim⟩⟩
  | (x, m0) :: ks, kvs, F, h, dj => by
    unfold rMk at h
    obtain ⟨w, ws, Fa, Fb, rfl, r1, r2, dj0, f⟩ := h
    have ih := rMk.snoc (k := k) r r2 fun a y1 y2 => dj a ((f a).2 (.inr y1)) y2
    show rMk K ((x, m0) :: (ks ++ [(k, m)])) ((x, w) :: (ws ++ [(k, v)])) H _
    unfold rMk
    refine ⟨w, _, Fa, _, rfl, r1, ih, fun a y1 y2 => y2.elim (dj0 a y1) (dj a ((f a).2 (.inl y1))), fun a => ⟨fun z => ?_, fun z => ?_⟩⟩
    · rcases z with z | z
      · exact ((f a).1 z).imp id .inl
      · exact .inr (.inr z)
    · rcases z with z | z | z
      · exact .inl ((f a).2 (.inl z))
      · exact .inl ((f a).2 (.inr z))
      · exact .inr z
section
variable {X : Cx} {C : Cn} {Γ Γ1 Γ2 Γ3 Γ' : Ctx} {Ts Hs : List T} {e a b c nm : Expr} {pos p : Pos} {i j : Nat} {d : D} {m : M} {ks : List (Key × M)} {x : Key}
end
end RL

set_option maxHeartbeats 2000000
/-! RL14: displays of dicts and of lists of what may change -/
namespace RL
open PySem L2

section
variable {K : PySem.W.Frag} {H : Hp}
theorem rMk.of : ∀ {kn : List Key} {ms : List M} {us : List V} {F : FS}, rMs K ms us H F → kn.length = ms.length → rMk K (kn.zip ms) (kn.zip us) H F
  | [], [], us, F, h, _ => by
    unfold rMs at h
    show rMk K [] [] H F
    unfold rMk
    exact ⟨rfl, h.2⟩
  | k :: kn, [], us, F, h, e => by simp at e
  | [], m :: ms, us, F, h, e => by simp at e
  | k :: kn, m :: ms, us, F, h, e => by
    unfold rMs at h
    obtain ⟨w, ws, Fa, Fb, rfl, r1, r2, dj, f⟩ := h
    show rMk K ((k, m) :: kn.zip ms) ((k, w) :: kn.zip ws) H F
    unfold rMk
    exact ⟨w, _, Fa, Fb, rfl, r1, rMk.of r2 (by simpa using e), dj, f⟩
end
section
variable {X : Cx} {C : Cn} {Γ Γ1 Γ2 Γ3 Γ' : Ctx} {Ts Hs : List T} {e a b c nm : Expr} {es : List Expr} {pos p : Pos} {i j : Nat} {d : D} {m : M} {ms : List M} {kn : List Key} {keys : List (Option Expr)} {vals : List Expr}
theorem blob_own {σ : L2.St} {vs us : List V} {H : Hp} (h : As C Γ (Ts ++ ms.map T.own) σ (vs ++ us) H) (hl : us.length = ms.length) : ∃ fp G, AsB C Γ Ts σ vs ms us H fp G := by
  obtain ⟨fp, G, B, _⟩ := As.blob (ts := ms.map T.own) (ms := ms) (by simp [T.mo, Function.comp_def]) (by simpa using hl) h
  exact ⟨fp, G, B⟩
/-- [e, ..] of what may change -/
theorem ee_ll (h : EA X C Γ Ts es Γ1 (ms.map T.own)) (hl : ms.length ≤ 1000) : EE X C Γ Ts (.List es pos) Γ1 (.own (.ll ms)) := (pe_lst h).wk fun σ H Q ⟨vs, h, q⟩ => ⟨vs, h, fun us H1 l h1 => by
  have l' : us.length = ms.length := by simpa using l
  refine ⟨Nat.le_trans (by omega) (show 1000 ≤ sizeLine by decide), fun p hp => ?_⟩
  obtain ⟨fp, G, B⟩ := blob_own h1 l'
  have ext : Ext H1 (upd H1 p (.lst us)) := Ext.new hp
  have B2 := B.chg (H' := upd H1 p (.lst us)) (G' := fun b => b = p ∨ G b) (ms' := [.ll ms]) (us' := [.ref p]) (fun a o e ng => ext a o e) (by
    have np : ¬ G p := fun y => by
      have := rMs.mut B.r y
      rw [hp] at this
      exact this
    unfold rMs
    refine ⟨_, [], _, e0, rfl, ?_, by unfold rMs; exact ⟨rfl, fun _ z => z⟩, Dj.e0r, fun a => ⟨.inl, fun z => z.elim id fun y => y.elim⟩⟩
    unfold rM
    exact ⟨p, _, G, rfl, upd_same, rMs.st ext.tf (fun b y => upd_ne fun z => np (z ▸ y)) B.r, np, fun b => Iff.rfl⟩) fun a y => y.elim (fun z => .inr (z ▸ hp)) .inl
  obtain ⟨fq, G2, B3⟩ := B2.uncons
  exact q _ _ B3.as⟩
end
end RL

set_option maxHeartbeats 2000000
/-! RL15: locking a list, rules over typed data, guards of mirrors -/
namespace RL
open PySem L2

theorem bsplit {α β : Type} {o : Option α} {f : α → Option β} {r : β} (h : o.bind f = some r) : ∃ a, o = some a ∧ f a = some r := Option.bind_eq_some_iff.mp h
def gd (c : Bool) : Option Unit := if c = true then some () else none
theorem gd_t {c : Bool} {u : Unit} (h : gd c = some u) : c = true := by
  unfold gd at h
  by_cases e : c = true
  · exact e
  · rw [if_neg e] at h; cases h
theorem gd_d {p : Prop} [Decidable p] {u : Unit} (h : gd (decide p) = some u) : p := of_decide_eq_true (gd_t h)
theorem gd_ok {c : Bool} (h : c = true) : gd c = some () := if_pos h
instance {i j : Int} : Decidable (CMul i j) := by unfold CMul; infer_instance
instance {i j : Int} : Decidable (CDivW i j) := by unfold CDivW; infer_instance

/-! ### a thing is locked -/
theorem pe_lock {X : Cx} {e : Expr} {te : TE} (h : PE X e te) : PE X e (fun σ H Q => te σ H fun v H1 => ∃ a u, v = .ref a ∧ H1 a = some u ∧ Mut (some u) ∧ ∀ od, Q v (upd H1 a (.frz od u))) := ⟨fun pins s σ H Q I q =>
  wpAny_mono (h.run pins s σ H _ I q) (fun w s' ⟨v, H1, I1, r, a, u, e1, e2, mu, k⟩ => by
    obtain ⟨od, I2⟩ := I1.lock e2 mu
    exact ⟨v, _, I2, r, k od⟩) fun _ _ z => z⟩
section
variable {X : Cx} {C : Cn} {Γ Γ1 Γ2 Γ3 Γ' : Ctx} {Ts Hs : List T} {t t1 t2 t3 : T} {ts : List T} {e a b c tg iter : Expr} {es rest : List Expr} {pos p p2 nm apos cpos : Pos} {nme : Expr} {i j : Nat} {d d1 d2 d3 : D} {ds ds' : List D} {m : M} {b1 b2 k : Bool} {α β : Type} {enc : α → D} {xs ys : List α} {x y : α}
theorem ee_lock (h : EE X C Γ Ts e Γ1 (.own (.li ds))) : EE X C Γ Ts e Γ1 (.im (.lst ds)) := (pe_lock h).wk fun σ H Q ⟨vs, h, q⟩ => ⟨vs, h, fun v H1 h1 => by
  obtain ⟨F, r, up⟩ := h1.top
  have r : rM C.K (.li ds) v H1 F := r
  unfold rM at r
  obtain ⟨a, us, rfl, hl, rd, hF⟩ := r
  have mu : Mut (some (HO.lst us)) := trivial
  refine ⟨a, _, rfl, hl, mu, fun od => q _ _ ?_⟩
  have tf : TF H1 (upd H1 a (.frz od (.lst us))) := TF.write (by rw [hl]; exact mu)
  refine up (.im (.lst ds)) _ _ e0 tf (fun b nb _ => upd_ne fun z => nb ((hF b).2 z)) ?_ (fun b z => z.elim) fun b z => z.elim
  show rM _ _ _ _ _
  unfold rM
  refine ⟨?_, fun _ z => z⟩
  unfold rD
  exact ⟨a, us, rfl, .inl ⟨od, upd_same⟩, rd.tf tf⟩⟩
/-! ### typed lists -/
theorem ee_appendE (j : Nat) (hn : PE X nme (tVar j)) (hj : Γ[j]? = some (some (.li ds'))) (h1 : EE X C Γ (Ts ++ [.al j]) e Γ1 (.im (enc x))) (hj1 : Γ1[j]? = some (some (.li (xs.map enc)))) (hl : xs.length < sizeLine)
    (hbase : attributeBase nme "append" X.env (eval nme X.env) = eval nme X.env := by rfl)
    (hfew : ((backTo cpos (starEach [e] X.env)).all (fun x => !x.1) && (backToKw cpos (keywordEach [] X.env)).all (fun x => x.1.isSome)
      && decide ([e].length + ([] : List Keyword).length + (if ([] : List Keyword).isEmpty then 0 else 1) < 30)) = true := by rfl)
    (hline : (apos.endLine == cpos.line) = true := by rfl) (hs : starEach [e] X.env = (false, eval e X.env) :: starEach [] X.env := by rfl) (hplain : (backTo cpos (starEach [] X.env)).any (·.1) = false := by rfl) :
    EE X C Γ Ts (.Call (.Attribute nme "append" apos) [e] [] cpos) (Γ1.set j (some (.li ((xs ++ [x]).map enc)))) (.im .non) := by
  rw [List.map_append]
  exact ee_append j hn hj h1 hj1 (by rw [List.length_map]; exact hl) hbase hfew hline hs hplain
theorem ee_popE (j : Nat) (hn : PE X nme (tVar j)) (hj : Γ[j]? = some (some (.li (xs.map enc)))) (hd : xs.getLast? = some x)
    (hbase : attributeBase nme "pop" X.env (eval nme X.env) = eval nme X.env := by rfl) (hline : (apos.endLine == cpos.line) = true := by rfl) :
    EE X C Γ Ts (.Call (.Attribute nme "pop" apos) [] [] cpos) (Γ.set j (some (.li (xs.dropLast.map enc)))) (.im (enc x)) := by
  rw [List.map_dropLast]
  exact ee_pop j hn hj (by rw [List.getLast?_map, hd] <;> rfl) hbase hline
theorem atI_map {f : α → β} {n : Int} (h : atI xs n = some x) : atI (xs.map f) n = some (f x) := by
  unfold atI at h ⊢
  rw [List.length_map]
  cases q : ixN xs.length n with
  | none => rw [q] at h; cases h
  | some j =>
    rw [q] at h
    have h : xs[j]? = some x := h
    show (xs.map f)[j]? = _
    rw [List.getElem?_map, h] <;> rfl
theorem ee_ixLE {n : Int} (h1 : EE X C Γ Ts a Γ1 t) (h2 : EE X C Γ1 (Ts ++ [t]) b Γ2 (.im (.int n))) (s : Src Γ2 t (xs.map enc)) (h : atI xs n = some x) (hs : PlainIx b := by exact fun _ _ => rfl) (hK : X.K = C.K := by rfl) : EE X C Γ Ts (.Subscript a b pos) Γ2 (.im (enc x)) := ee_ixL h1 h2 s (atI_map h) hs hK
theorem ee_ixTE {n : Int} (h1 : EE X C Γ Ts a Γ1 (.im (.tup (xs.map enc)))) (h2 : EE X C Γ1 (Ts ++ [.im (.tup (xs.map enc))]) b Γ2 (.im (.int n))) (h : atI xs n = some x) (hs : PlainIx b := by exact fun _ _ => rfl) (hK : X.K = C.K := by rfl) : EE X C Γ Ts (.Subscript a b pos) Γ2 (.im (enc x)) := ee_ixT h1 h2 (atI_map h) hs hK
theorem ee_slLE {lo hi : Option Expr} {l u : Option Int} (h1 : EE X C Γ Ts a Γ1 t) (h2 : EP X C Γ1 (Ts ++ [t]) lo Γ2 l) (h3 : EP X C Γ2 (Ts ++ [t]) hi Γ3 u) (s : Src Γ3 t (xs.map enc)) (hK : X.K = C.K := by rfl) : EE X C Γ Ts (.Subscript a (.Slice lo hi none p2) pos) Γ3 (.own (.li ((cutL xs l u).map enc))) := by
  rw [← cutL_map]
  exact ee_slL h1 h2 h3 s hK
theorem ee_catTE (h1 : EE X C Γ Ts a Γ1 (.im (.tup (xs.map enc)))) (h2 : EE X C Γ1 (Ts ++ [.im (.tup (xs.map enc))]) b Γ2 (.im (.tup (ys.map enc)))) (hl : xs.length + ys.length ≤ sizeLine) (hK : X.K = C.K := by rfl) : EE X C Γ Ts (.BinOp a .Add b pos) Γ2 (.im (.tup ((xs ++ ys).map enc))) := by
  rw [List.map_append]
  exact ee_catT h1 h2 (by rw [List.length_map, List.length_map]; exact hl) hK
theorem ee_lenLE (hm : X.mg "len" = none) (h : EE X C Γ Ts e Γ1 t) (s : Src Γ1 t (xs.map enc)) (hg : Gl X "len" := by rfl) (hK : X.K = C.K := by rfl) (he : starEach [e] X.env = (false, eval e X.env) :: starEach [] X.env := by rfl) (hpl : (backTo pos (starEach [] X.env)).any (·.1) = false := by rfl) : EE X C Γ Ts (.Call (.Name "len" nm) [e] [] pos) Γ1 (.im (.int xs.length)) := by
  have z := ee_lenL (nm := nm) (pos := pos) hm h s hg hK he hpl
  rw [List.length_map] at z
  exact z
theorem ee_lenTE (hm : X.mg "len" = none) (h : EE X C Γ Ts e Γ1 (.im (.tup (xs.map enc)))) (hg : Gl X "len" := by rfl) (hK : X.K = C.K := by rfl) (he : starEach [e] X.env = (false, eval e X.env) :: starEach [] X.env := by rfl) (hpl : (backTo pos (starEach [] X.env)).any (·.1) = false := by rfl) : EE X C Γ Ts (.Call (.Name "len" nm) [e] [] pos) Γ1 (.im (.int xs.length)) := by
  have z := ee_lenT (nm := nm) (pos := pos) hm h hg hK he hpl
  rw [List.length_map] at z
  exact z
theorem oks_map {l : List α} (f : α → D) (h : ∀ x ∈ l, (f x).ok = true) : oks (l.map f) = true := by
  rw [oks_all, List.all_eq_true]
  intro d hd
  obtain ⟨x, hx, rfl⟩ := List.mem_map.mp hd
  exact h x hx
theorem et_eqNilE (hu : X.A.units + 64 < cLine) (h1 : EE X C Γ Ts a Γ1 t1) (s : Src Γ1 t1 (xs.map enc)) (ho : oks (xs.map enc) = true) {q : Pos} (hK : X.K = C.K := by rfl) : ET X C Γ Ts (.Compare a [.Eq] [.List [] q] pos) Γ1 xs.isEmpty := by
  have z := et_eqNil (q := q) (pos := pos) hu h1 s ho hK
  rw [List.isEmpty_map] at z
  exact z
theorem et_neNilE (hu : X.A.units + 64 < cLine) (h1 : EE X C Γ Ts a Γ1 t1) (s : Src Γ1 t1 (xs.map enc)) (ho : oks (xs.map enc) = true) {q : Pos} (hK : X.K = C.K := by rfl) : ET X C Γ Ts (.Compare a [.NotEq] [.List [] q] pos) Γ1 (!xs.isEmpty) := by
  have z := et_neNil (q := q) (pos := pos) hu h1 s ho hK
  rw [List.isEmpty_map] at z
  exact z
/-- the items with their places -/
def numL (xs : List α) : List (Int × α) := xs.mapIdx fun i x => ((i : Int), x)
def encI (enc : α → D) (p : Int × α) : D := .tup [.int p.1, enc p.2]
theorem enumD_map : enumD (xs.map enc) = (numL xs).map (encI enc) := by
  unfold enumD numL encI
  apply List.ext_getElem?
  intro i
  simp only [List.getElem?_mapIdx, List.getElem?_map]
  cases xs[i]? <;> rfl
theorem ee_pow {n n' : Int} (hc : CPow n n') (h1 : EE X C Γ Ts a Γ1 (.im (.int n))) (h2 : EE X C Γ1 (Ts ++ [.im (.int n)]) b Γ2 (.im (.int n'))) : EE X C Γ Ts (.BinOp a .Pow b pos) Γ2 (.im (.int (n ^ n'.toNat))) := ee_op op_pow h1 h2 (r2s_intC hc fun H => by unfold rD; rfl)
/-- (a, b) = e -/
theorem s_unp {es : List Expr} {kk : Nat} {J : List Nat} (he : EE X C Γ Hs e Γ1 (.im d)) (hg : GT X C Hs Γ1 (.Tuple es kk p) d Γ2 J) (hs : swapsWithSole [.Tuple es kk p] e pos.line X.env = pure false := by rfl) (hw : swappedStores [.Tuple es kk p] e X.env = pure none := by rfl)
    (h1 : (assignEach [.Tuple es kk p] X.env).map (·.2) = [assign (.Tuple es kk p) X.env] := by rfl) : S1 X C Hs Γ (.Assign [.Tuple es kk p] e pos) (.nx Γ2) :=
  (ps_asg he hg hs hw h1).wk fun σ H D ⟨⟨hs, h⟩, q⟩ => ⟨hs, h, fun v H1 h1 => ⟨hs, h1.pop, h1.topIm, fun σ' ag h2 => q σ' hs H1 h2⟩⟩
end
/-! ### data compared and shown, in mirrors -/
def shDD (d : D) : Option Str := if (d.ok && shows d.p) = true then some d.p.shown else none
section
variable {X : Cx} {C : Cn} {Γ Γ1 Γ2 Γ3 Γ' : Ctx} {Ts Hs : List T} {e a b : Expr} {pos nm : Pos} {d d1 d2 d3 : D} {k : Bool} {s : Str}
theorem ee_shDD (hG : X.A.guards = some []) (hu : X.A.units + 64 < cLine) (hm : X.mg "repr" = none) (h : EE X C Γ Ts e Γ1 (.im d)) (hs : shDD d = some s) (hg : Gl X "repr" := by rfl) (hK : X.K = C.K := by rfl) (he : starEach [e] X.env = (false, eval e X.env) :: starEach [] X.env := by rfl) (hpl : (backTo pos (starEach [] X.env)).any (·.1) = false := by rfl) : EE X C Γ Ts (.Call (.Name "repr" nm) [e] [] pos) Γ1 (.im (.str s)) := by
  unfold shDD at hs
  split at hs
  next z =>
    simp only [Bool.and_eq_true] at z
    cases hs
    exact ee_repr hG hu hm h (.im z.1) z.2 hg hK he hpl
  next => cases hs
end
end RL

set_option maxHeartbeats 2000000
/-! RL16: what the printed walks lean on -/
namespace RL
open PySem L2
theorem if_t {α : Type} {b : Bool} {x y : α} (h : b = true) : (if b = true then x else y) = x := if_pos h
theorem if_f {α : Type} {b : Bool} {x y : α} (h : b = false) : (if b = true then x else y) = y := by rw [h] <;> rfl
def Out.k {S R Q : Type} (o : Out S R) (f : S → Option Q) (g : R → Option Q) : Option Q := match o with
  | .rt r => g r
  | .nx s => f s
  | _ => none
abbrev eT2 {α β : Type} (f : α → D) (g : β → D) (p : α × β) : D := .tup [f p.1, g p.2]
abbrev eT3 {α β γ : Type} (f : α → D) (g : β → D) (h : γ → D) (p : α × β × γ) : D := .tup [f p.1, g p.2.1, h p.2.2]
abbrev eF2 {α β : Type} (f : α → D) (g : β → D) (p : α × β) : D := .lst [f p.1, g p.2]
abbrev eTL {α : Type} (f : α → D) (l : List α) : D := .tup (l.map f)
abbrev eFL {α : Type} (f : α → D) (l : List α) : D := .lst (l.map f)
def eO {α : Type} (f : α → D) : Option α → D
  | none => .non
  | some x => f x
abbrev eX (d : D) : D := d
/-- what drawing needs -/
structure Deck where
  great : List Int
  mix : Int
  turn : Int
  wide : Bool
def Deck.wd (b : Bool) : List (Key × M) := if b = true then [(.inr "widest", .im (.bl true))] else []
abbrev Deck.m (d : Deck) : M := .dk ((.inr "great", .li (d.great.map D.int)) :: (.inr "se\x61l", .im (.int d.mix)) :: (.inr "turn", .im (.int d.turn)) :: Deck.wd d.wide)
section
variable {X : Cx} {C : Cn} {Γ Γ1 Γ2 Γ3 Γ' : Ctx} {Ts Hs : List T} {e a b c : Expr} {pos : Pos} {i : Nat} {d : D} {ds : List D} {k : Bool} {st : Stmt} {n n' : Int}
theorem tests0 : PTs X [] (tr C Γ Ts Γ true) := pts_nil.wk fun σ H Q ⟨vs, h, q⟩ => q H h
theorem tests1 (h : ET X C Γ Ts c Γ1 k) : PTs X [c] (tr C Γ Ts Γ1 k) := pts_one h
/-- the list that a statement has laid into the slot i is locked -/
theorem s_lock (i : Nat) (h : S1 X C Hs Γ st (.nx Γ1)) (hi : Γ1[i]? = some (some (.li ds))) : S1 X C Hs Γ st (.nx (Γ1.set i (some (.im (.lst ds))))) := by
  have p : PS X st (fun D σ H => sr C Hs Γ (.nx Γ1) { D with nx := fun σ' H' => ∃ a u, H' a = some u ∧ Mut (some u) ∧ ∀ od, D.nx σ' (upd H' a (.frz od u)) } σ H) := ⟨fun pins s σ H D I q => by
    refine wpAny_mono (h.run pins s σ H _ I q) (fun fl s' r => ?_) fun _ _ z => z
    cases fl with
    | next =>
      obtain ⟨σ', H', I', a, u, e, mu, k⟩ := r
      obtain ⟨od, I2⟩ := I'.lock e mu
      exact ⟨σ', _, I2, k od⟩
    | ret u => exact r
    | brk => exact r
    | cont => exact r⟩
  refine p.wk fun σ H D ⟨h0, q⟩ => ⟨h0, fun σ' hs H1 h1 => ?_⟩
  obtain ⟨w, F, hw, r, up⟩ := h1.slot hi
  unfold rM at r
  obtain ⟨a, us, rfl, hl, rd, hF⟩ := r
  have mu : Mut (some (HO.lst us)) := trivial
  refine ⟨a, _, hl, mu, fun od => q σ' hs _ ?_⟩
  have tf : TF H1 (upd H1 a (.frz od (.lst us))) := TF.write (by rw [hl]; exact mu)
  refine up (.im (.lst ds)) _ e0 tf (fun b nb _ => upd_ne fun z => nb ((hF b).2 z)) ?_ fun b z => z.elim
  unfold rM
  refine ⟨?_, fun _ z => z⟩
  unfold rD
  exact ⟨a, us, rfl, .inl ⟨od, upd_same⟩, rd.tf tf⟩
end
end RL

set_option maxHeartbeats 2000000
/-! RL17: another name becomes the thing itself, late -/
namespace RL
open PySem L2
theorem freeJ_nil {Ts : List T} : FreeJ [] Ts := fun _ h => nomatch h
theorem freeJ_cons {i : Nat} {J : List Nat} {Ts : List T} (h : Free i Ts) (g : FreeJ J Ts) : FreeJ (i :: J) Ts := fun x hx => by
  rcases List.mem_cons.mp hx with z | z
  · subst z; exact h
  · exact g x z
theorem bare_nil {Γ : Ctx} : Bare [] Γ := fun _ h => nomatch h
theorem bare_cons {i : Nat} {J : List Nat} {Γ : Ctx} (h : Γ[i]? = some none) (g : Bare J Γ) : Bare (i :: J) Γ := fun x hx m => by
  rcases List.mem_cons.mp hx with z | z
  · subst z; rw [h]; intro e; cases e
  · exact g x z m
theorem pnJ {pin : List (Nat × V)} {ios J : List Nat} (hpin : ∀ p ∈ pin, p.1 ∈ ios) (h : ∀ i ∈ J, i ∉ ios) : ∀ p ∈ pin, p.1 ∉ J := fun p hp z => h _ z (hpin p hp)
theorem np1 {pin : List (Nat × V)} {ios : List Nat} {i : Nat} (hpin : ∀ p ∈ pin, p.1 ∈ ios) (h : i ∉ ios) : ∀ p ∈ pin, p.1 ≠ i := fun p hp e => h (e ▸ hpin p hp)
section
variable {X : Cx} {C : Cn} {Γ Γ1 Γ2 : Ctx} {Ts : List T} {ts : List T} {es : List Expr} {j : Nat} {m : M} {σ : L2.St} {vs : List V} {H : Hp}
theorem As.late (h : As C Γ (Ts ++ (.al j :: ts)) σ vs H) (hj : Γ[j]? = some (some m)) : As C (Γ.set j none) (Ts ++ (.tk j m :: ts)) σ vs H := by
  obtain ⟨fp, W⟩ := h
  let n := Ts.length
  have nn : ∀ x : Nat, (Sum.inl x : Sum Nat Nat) ≠ .inr n := fun x z => nomatch z
  have at_n : (Ts ++ (T.al j :: ts))[n]? = some (.al j) := by simp [n]
  obtain ⟨v, hv, hσ, hn⟩ := W.tp n _ at_n
  obtain ⟨v2, hσ2, r⟩ := W.sl j m hj
  rw [hσ] at hσ2
  cases hσ2
  let fq : Sum Nat Nat → FS := fun y => if y = .inr n then fp (.inl j) else if y = .inl j then e0 else fp y
  have q0 : fq (.inr n) = fp (.inl j) := if_pos rfl
  have q1 : fq (.inl j) = e0 := (if_neg (nn j)).trans (if_pos rfl)
  have q2 : ∀ y, y ≠ .inl j → y ≠ .inr n → fq y = fp y := fun y h1 h2 => (if_neg h2).trans (if_neg h1)
  have le : ∀ y a, fq y a → (y = .inr n ∧ fp (.inl j) a) ∨ (y ≠ .inl j ∧ y ≠ .inr n ∧ fp y a) := fun y a ha => by
    by_cases h1 : y = .inr n
    · subst h1; rw [q0] at ha; exact .inl ⟨rfl, ha⟩
    · by_cases h2 : y = .inl j
      · subst h2; rw [q1] at ha; exact ha.elim
      · rw [q2 y h2 h1] at ha; exact .inr ⟨h2, h1, ha⟩
  have ex : ∀ y a, fq y a → ∃ x, fp x a := fun y a ha => by
    rcases le y a ha with ⟨_, h⟩ | ⟨_, _, h⟩
    · exact ⟨_, h⟩
    · exact ⟨_, h⟩
  refine ⟨fq, by simp [W.lg], by have := W.ln; simp at this ⊢; exact this, fun i mi hi => ?_, fun k t hk => ?_, fun x y hxy a ha hb => ?_, fun x a ha => ?_, fun x a ha => ?_, W.fr, W.pn⟩
  · by_cases e : i = j
    · subst e
      have hl : i < Γ.length := (List.getElem?_eq_some_iff.mp hj).1
      rw [List.getElem?_set_self hl] at hi
      cases hi
    · rw [List.getElem?_set_ne (Ne.symm e)] at hi
      obtain ⟨w, r1, r2⟩ := W.sl i mi hi
      exact ⟨w, r1, by rw [q2 (.inl i) (fun z => e (Sum.inl.inj z)) (nn i)]; exact r2⟩
  · by_cases e : k = n
    · subst e
      have hk' : (Ts ++ (T.tk j m :: ts))[n]? = some (.tk j m) := by simp [n]
      rw [hk'] at hk
      cases hk
      exact ⟨v, hv, hσ, by rw [q0]; exact r⟩
    · have hk2 : (Ts ++ (T.al j :: ts))[k]? = some t := by
        by_cases hl : k < n
        · rw [List.getElem?_append_left hl] at hk ⊢
          exact hk
        · have hl2 : n ≤ k := by omega
          rw [List.getElem?_append_right hl2] at hk ⊢
          obtain ⟨k', hk'⟩ : ∃ k', k - Ts.length = k' + 1 := ⟨k - n - 1, by show k - n = _; omega⟩
          rw [hk', List.getElem?_cons_succ] at hk ⊢
          exact hk
      obtain ⟨w, r1, r2⟩ := W.tp k t hk2
      exact ⟨w, r1, by rw [q2 (.inr k) (fun z => nomatch z) (fun z => e (Sum.inr.inj z))]; exact r2⟩
  · rcases le x a ha with ⟨h1, h2⟩ | ⟨h1, h2, h3⟩
    · rcases le y a hb with ⟨g1, g2⟩ | ⟨g1, g2, g3⟩
      · exact hxy (h1.trans g1.symm)
      · exact W.dj _ _ (Ne.symm g1) a h2 g3
    · rcases le y a hb with ⟨g1, g2⟩ | ⟨g1, g2, g3⟩
      · exact W.dj _ _ h1 a h3 g2
      · exact W.dj x y hxy a h3 g3
  · obtain ⟨y, h⟩ := ex x a ha
    exact W.sn y a h
  · obtain ⟨y, h⟩ := ex x a ha
    exact W.mu y a h
theorem ea_late (h : EA X C Γ Ts es Γ1 (.al j :: ts)) (hj : Γ1[j]? = some (some m) := by rfl) : EA X C Γ Ts es (Γ1.set j none) (.tk j m :: ts) := h.wk fun σ H Q ⟨vs, h, q⟩ => ⟨vs, h, fun us H1 l h1 => q us H1 (by simpa using l) (h1.late hj)⟩
end
end RL

set_option maxHeartbeats 2000000
/-! RL18: the deck of a law -/
namespace RL
open PySem L2
theorem ee_negc {X : Cx} {C : Cn} {Γ : Ctx} {Ts : List T} {pos q : Pos} {kk : Nat} {m : Int} : EE X C Γ Ts (.UnaryOp .USub (.Constant (.int m) kk q) pos) Γ (.im (.int (-m))) := (pe_un un_neg pe_int).wk fun σ H Q ⟨vs, h, q⟩ => ⟨m, rfl, q _ H (h.pushIm Ext.refl (by unfold rD; rfl))⟩
section
variable {X : Cx} {C : Cn} {Γ Γ1 Γ2 : Ctx} {Ts Hs : List T} {nm e b : Expr} {pos p apos cpos : Pos} {d : Deck} {j : Nat} {x : Int} {k0 : Nat} {q : Pos}
section
variable {α : Type} {enc : α → D} {xs ys : List α} {x : α} {m m' : M} {s : Sp1} {r : R2}
/-- x[k] != [], over typed lists -/
theorem et_neNilZE (hu : X.A.units + 64 < cLine) (j : Nat) (S : SubR X s r) (hn : PE X nm (tVar j)) (hj : Γ[j]? = some (some m)) (hb : EE X C Γ (Ts ++ [.al j]) b Γ (.im s.d)) (e1 : m.sub s = some (.li (xs.map enc))) (ho : oks (xs.map enc) = true) {q1 : Pos} (hs : PlainIx b := by exact fun _ _ => rfl) (hK : X.K = C.K := by rfl) :
    ET X C Γ Ts (.Compare (.Subscript nm b p) [.NotEq] [.List [] q1] pos) Γ (!xs.isEmpty) := by
  have z := et_neNilZ (p := p) (pos := pos) (q1 := q1) hu j S hn hj hb e1 ho hs hK
  rw [List.isEmpty_map] at z
  exact z
theorem ee_popZE (j : Nat) (S : SubR X s r) (hn : PE X nm (tVar j)) (hj : Γ[j]? = some (some m)) (hb : EE X C Γ (Ts ++ [.al j]) b Γ (.im s.d)) (e1 : m.sub s = some (.li (xs.map enc))) (hd : xs.getLast? = some x) (hc : m.chg s (.li (xs.dropLast.map enc)) = m') (hs : PlainIx b := by exact fun _ _ => rfl)
    (hbase : attributeBase (.Subscript nm b p) "pop" X.env (eval (.Subscript nm b p) X.env) = eval (.Subscript nm b p) X.env := by rfl) (hline : (apos.endLine == cpos.line) = true := by rfl) :
    EE X C Γ Ts (.Call (.Attribute (.Subscript nm b p) "pop" apos) [] [] cpos) (Γ.set j (some m')) (.im (enc x)) := by
  rw [← hc, List.map_dropLast]
  exact ee_popZ j S hn hj hb e1 (by rw [List.getLast?_map, hd] <;> rfl) hs hbase hline
theorem ee_appZE (j : Nat) (S : SubR X s r) (hn : PE X nm (tVar j)) (hj : Γ[j]? = some (some m)) (hb : EE X C Γ (Ts ++ [.al j]) b Γ (.im s.d)) (e1 : m.sub s = some (.li (xs.map enc))) (he : EQ X C Γ e (enc x)) (hlen : xs.length < sizeLine) (hc : m.chg s (.li ((xs ++ [x]).map enc)) = m') (hs : PlainIx b := by exact fun _ _ => rfl)
    (hbase : attributeBase (.Subscript nm b p) "append" X.env (eval (.Subscript nm b p) X.env) = eval (.Subscript nm b p) X.env := by rfl)
    (hfew : ((backTo cpos (starEach [e] X.env)).all (fun x => !x.1) && (backToKw cpos (keywordEach [] X.env)).all (fun x => x.1.isSome)
      && decide ([e].length + ([] : List Keyword).length + (if ([] : List Keyword).isEmpty then 0 else 1) < 30)) = true := by rfl)
    (hline : (apos.endLine == cpos.line) = true := by rfl) (hst : starEach [e] X.env = (false, eval e X.env) :: starEach [] X.env := by rfl) (hplain : (backTo cpos (starEach [] X.env)).any (·.1) = false := by rfl) :
    EE X C Γ Ts (.Call (.Attribute (.Subscript nm b p) "append" apos) [e] [] cpos) (Γ.set j (some m')) (.im .non) := by
  rw [← hc, List.map_append]
  exact ee_appZ j S hn hj hb e1 he (by rw [List.length_map]; exact hlen) hs hbase hfew hline hst hplain
end
end
end RL

set_option maxHeartbeats 2000000
/-! RL19: what the own rewriting of picks and of sameness leans on -/
namespace RL
open PySem L2
mutual
/-- data that can be told the same, of a bounded depth -/
def D.pl : Nat → D → Bool
  | _, .non => true
  | _, .bl _ => true
  | _, .int _ => true
  | _, .str _ => true
  | 0, .tup _ => false
  | n + 1, .tup l => pls n l
  | _, _ => false
def pls : Nat → List D → Bool
  | _, [] => true
  | n, d :: l => D.pl n d && pls n l
end
open Classical in
theorem atI_nat {α : Type} {l : List α} {i : Nat} {x : α} (h : l[i]? = some x) : atI l (i : Int) = some x := by
  have hl : i < l.length := (List.getElem?_eq_some_iff.mp h).1
  unfold atI ixN
  rw [if_pos (Int.natCast_nonneg i), if_pos (by omega)]
  simpa using h
section
variable {X : Cx} {C : Cn} {Γ Γ1 Γ2 : Ctx} {Ts : List T} {e a b c : Expr} {pos q : Pos} {k k2 : Bool} {kk : Nat}
end
end RL

set_option maxHeartbeats 2000000
/-! RL20: a, b = e1, e2 by way of a tuple (where a name is taken along by a comprehension) -/
namespace RL
open PySem L2
section
variable {X : Cx} {C : Cn} {Γ Γ1 Γ2 : Ctx} {Hs : List T} {a b c : Expr} {pos px py pz pt : Pos} {m1 m2 m3 : M}
theorem s_unp2 (i j : Nat) {x y : Str} {kt k2 pt2} (hcm : X.calm = true) (hN : X.N.Nodup) (hi : X.N[i]? = some x) (hj : X.N[j]? = some y) (hij : i ≠ j) (hxl : Loc X.env.scope x) (hyl : Loc X.env.scope y)
    (hpi : ∀ p ∈ C.pin, p.1 ≠ i) (hpj : ∀ p ∈ C.pin, p.1 ≠ j) (hfi : Free i Hs) (hfj : Free j Hs) (ha : EA X C Γ Hs [a, b] Γ1 [.own m1, .own m2])
    (hw : swappedStores [.Tuple [.Name x px, .Name y py] kt pt] (.Tuple [a, b] k2 pt2) X.env = pure none := by kernel_rfl)
    (hs : swapsWithSole [.Tuple [.Name x px, .Name y py] kt pt] (.Tuple [a, b] k2 pt2) pos.line X.env = pure false := by rfl)
    (h1 : (assignEach [.Tuple [.Name x px, .Name y py] kt pt] X.env).map (·.2) = [assign (.Tuple [.Name x px, .Name y py] kt pt) X.env] := by rfl)
    (h2 : (assignEach [.Name x px, .Name y py] X.env).map (·.2) = assign (.Name x px) X.env :: (assignEach [.Name y py] X.env).map (·.2) := by rfl)
    (h3 : (assignEach [.Name y py] X.env).map (·.2) = assign (.Name y py) X.env :: (assignEach [] X.env).map (·.2) := by rfl)
    (hn : (assignEach [.Name x px, .Name y py] X.env).length = 2 := by rfl) (hst : (assignEach [.Name x px, .Name y py] X.env).findIdx? (·.1) = none := by rfl)
    (hn1 : X.fn x = true ∨ X.env.scope.names.lookup x = some .local := by first | exact .inl rfl | exact .inr rfl) (hn2 : X.fn y = true ∨ X.env.scope.names.lookup y = some .local := by first | exact .inl rfl | exact .inr rfl) :
    S1 X C Hs Γ (.Assign [.Tuple [.Name x px, .Name y py] kt pt] (.Tuple [a, b] k2 pt2) pos) (.nx ((Γ1.set j (some m2)).set i (some m1))) :=
  (ps_asg (pe_tup ha) (pg_tup hcm (pgs_cons (pg_name hN hi hxl hn1) (pgs_cons (pg_name hN hj hyl hn2) pgs_nil h3) h2) hn hst) hs hw h1).wk fun σ H D ⟨⟨hs, h⟩, q⟩ => ⟨hs, h, fun us H1 hl h1 => by
    obtain ⟨u, w, rfl⟩ : ∃ u w, us = [u, w] := match us, hl with | [u, w], _ => ⟨u, w, rfl⟩
    refine ⟨show 2 ≤ sizeLine by decide, fun p hp => ⟨p, [u, w], rfl, SqT.of upd_same, rfl, u, [w], rfl, w, [], rfl, rfl, ?_⟩⟩
    have h2 : As C Γ1 ((Hs ++ [.own m1]) ++ [.own m2]) σ ((hs ++ [u]) ++ [w]) (upd H1 p (.tup [u, w])) := by simpa using h1.ext (Ext.new hp)
    have h3 := h2.set hpj (hfj.append free1)
    have h4 := h3.set hpi hfi
    have e : (σ.set j (some w)).set i (some u) = (σ.set i (some u)).set j (some w) := List.set_comm _ _ (Ne.symm hij)
    rw [e] at h4
    exact q _ hs _ h4⟩
end
section
variable {X : Cx} {C : Cn} {Γ Γ1 Γ2 : Ctx} {Ts ts : List T} {k n : Nat} {f : Addr} {fd : FuncData} {ps : List Str} {x : Str} {p pos : Pos} {e : Expr} {es : List Expr} {ios : List Nat} {rel : List M → M → List M → Prop} {ms ms' : List M} {r : M}
theorem ee_callX (F : FnG X.prog X.w X.K X.mg X.base k f fd ps (spR X.K n ios rel)) (hr : Room k X.A) (hG : X.A.guards = some []) (hm : X.mg x = some (.ref f)) (hk : PySem.W.keepIn X.K (.ref f) = true) (hb : Binds X.K fd ps [])
    (ha : EA X C Γ Ts (e :: es) Γ1 ts) (hrel : rel ms r ms') (hΓ : putAll Γ1 (jsOf ts ios) ms' = Γ2 := by rfl) (hg : Gl X x := by rfl) (hK : X.K = C.K := by rfl) (hn : ts.length = n := by rfl) (hms : ts.map T.mo = ms.map some := by rfl) (hl : ms'.length = ios.length := by rfl) (hdb : (x == ("__debug__" : Str)) = false := by decide)
    (he : starEach (e :: es) X.env = (false, eval e X.env) :: starEach es X.env := by rfl) (hpl : (backTo pos (starEach es X.env)).any (·.1) = false := by rfl) :
    EE X C Γ Ts (.Call (.Name x p) (e :: es) [] pos) Γ2 (.own r) := hΓ ▸ ee_call F hr hG hm hk hb ha hrel hg hK hn hms hl hdb he hpl
end
theorem outk_nx {S R Q : Type} {s : S} {f : S → Option Q} {g : R → Option Q} {x : Option Q} (h : Out.k (.nx s) f g = x) : f s = x := h
theorem outk_rt {S R Q : Type} {r : R} {f : S → Option Q} {g : R → Option Q} {x : Option Q} (h : Out.k (.rt r) f g = x) : g r = x := h
theorem outk_bk {S R Q : Type} {s : S} {f : S → Option Q} {g : R → Option Q} {x : Q} (h : Out.k (.bk s) f g = some x) : False := by cases h
theorem outk_ct {S R Q : Type} {s : S} {f : S → Option Q} {g : R → Option Q} {x : Q} (h : Out.k (.ct s) f g = some x) : False := by cases h
end RL

set_option maxHeartbeats 2000000
/-! RL21: drawing, in plain Lean -/
namespace RL
open PySem L2
theorem modB {a b : Int} (h : 0 < b) (h2 : b < 2 ^ 64) : CMul (a % b) (a % b) := .inl ⟨by have := Int.emod_nonneg a (Int.ne_of_gt h); omega, by have := Int.emod_lt_of_pos a h; omega⟩
/-! ### it is total -/
def Deck.ok (d : Deck) : Prop := d.great.length ≤ 63
theorem iex {β : Type} {c : Bool} {x y : Option β} {P : β → Prop} (h1 : c = true → ∃ b, x = some b ∧ P b) (h2 : c = false → ∃ b, y = some b ∧ P b) : ∃ b, (if c = true then x else y) = some b ∧ P b := by
  cases c with
  | true => rw [if_pos rfl]; exact h1 rfl
  | false => rw [if_neg Bool.false_ne_true]; exact h2 rfl
theorem gdd {p : Prop} [Decidable p] (h : p) : gd (decide p) = some () := gd_ok (decide_eq_true h)
/-! ### loops -/
theorem lcM_filterU {α β : Type} {t : α → Bool} {g : α → β} {xs : List α} : lcM (fun (_ : Unit) x => some ((), if t x = true then some (g x) else none)) () xs = some ((), (xs.filter t).map g) := lcM_filter t g () xs
theorem lcM_mapU {α β : Type} {g : α → β} {xs : List α} : lcM (fun (_ : Unit) x => some ((), some (g x))) () xs = some ((), xs.map g) := lcM_map g () xs
theorem forS_app {S α : Type} {f : S → α → Option S} : ∀ {xs ys : List α} {s : S}, forS f s (xs ++ ys) = (forS f s xs).bind fun s' => forS f s' ys
  | [], ys, s => rfl
  | x :: xs, ys, s => by
    show (f s x).bind _ = ((f s x).bind _).bind _
    cases f s x with
    | none => rfl
    | some s1 => exact forS_app
theorem forS_snoc {S α : Type} {f : S → α → Option S} {xs : List α} {x : α} {s s1 s2 : S} (h1 : forS f s xs = some s1) (h2 : f s1 x = some s2) : forS f s (xs ++ [x]) = some s2 := by
  rw [forS_app, h1]
  show (f s1 x).bind _ = _
  rw [h2] <;> rfl
theorem whS_ex {S : Type} {c : S → Bool} {f : S → Option S} (Inv : S → Prop) (μ : S → Nat) (st : ∀ s, Inv s → c s = true → ∃ s', f s = some s' ∧ Inv s' ∧ μ s' < μ s) : ∀ {n : Nat} {s : S}, Inv s → μ s < n → ∃ s', whS c f n s = some s' ∧ Inv s' ∧ c s' = false
  | 0, s, _, h => absurd h (Nat.not_lt_zero _)
  | n + 1, s, i, h => by
    unfold whS
    cases hc : c s with
    | true =>
      obtain ⟨s1, e1, i1, d1⟩ := st s i hc
      rw [if_pos rfl, e1]
      exact whS_ex Inv μ st (n := n) (s := s1) i1 (by omega)
    | false =>
      rw [if_neg Bool.false_ne_true]
      exact ⟨s, rfl, i, hc⟩
theorem cutL_to {α : Type} {xs : List α} {n : Nat} : cutL xs none (some (n : Int)) = xs.take n := by
  unfold cutL
  rw [HT.sIx_none, HT.sIx_nat]
  simp only [List.drop_zero, Nat.sub_zero]
  rcases Nat.le_total n xs.length with h | h
  · rw [Nat.min_eq_left h]
  · rw [Nat.min_eq_right h, List.take_of_length_le (Nat.le_refl _), List.take_of_length_le h]
theorem mem_numL {α : Type} {xs : List α} {x : Int × α} (h : x ∈ numL xs) : ∃ i : Nat, x.1 = i ∧ xs[i]? = some x.2 := by
  unfold numL at h
  obtain ⟨i, hi⟩ := List.getElem?_of_mem h
  rw [List.getElem?_mapIdx] at hi
  cases q : xs[i]? with
  | none => rw [q] at hi; cases hi
  | some d => rw [q] at hi; cases hi; exact ⟨i, rfl, q⟩
theorem len_numL {α : Type} {xs : List α} : (numL xs).length = xs.length := by unfold numL; simp
theorem mem_rng {lo hi x : Int} (h : x ∈ rng lo hi) : lo ≤ x ∧ x < hi := by
  unfold rng at h
  obtain ⟨i, hi, rfl⟩ := List.mem_map.mp h
  rw [List.mem_range] at hi
  omega
/-! ### what repr shows -/
end RL

set_option maxHeartbeats 2000000
/-! RL22: data that repr shows -/
namespace RL
open PySem L2
end RL

set_option maxHeartbeats 4000000
/-! RL23: more of tuples and lists -/
namespace RL
open PySem L2 PySem.Spec PyProof.Rows
section
variable {X : Cx}
end
theorem rDs.rep {K : PySem.W.Frag} {H : Hp} {ds : List D} {us : List V} (h : rDs K ds us H) : ∀ n : Nat, rDs K (List.replicate n ds).flatten (List.replicate n us).flatten H
  | 0 => by show rDs K [] [] H; unfold rDs; rfl
  | n + 1 => by
    rw [List.replicate_succ, List.replicate_succ, List.flatten_cons, List.flatten_cons]
    exact h.app (rDs.rep h n)
section
variable {X : Cx} {C : Cn} {Γ Γ1 Γ2 Γ3 Γ' : Ctx} {Ts Hs : List T} {t t1 t2 t3 : T} {ts : List T} {e a b c tg iter : Expr} {es rest : List Expr} {pos p p2 nm apos cpos : Pos} {nme : Expr} {i j : Nat} {d d1 d2 d3 : D} {ds ds' : List D} {m : M} {b1 b2 k : Bool} {α β : Type} {enc : α → D} {xs ys : List α} {x y : α} {n n' : Int}
/-- [a] * n -/
theorem ee_repLE (h1 : EE X C Γ Ts a Γ1 (.own (.li [enc x]))) (h2 : EE X C Γ1 (Ts ++ [.own (.li [enc x])]) b Γ2 (.im (.int n))) (h0 : 0 ≤ n) (hb : n ≤ 1000) : EE X C Γ Ts (.BinOp a .Mult b pos) Γ2 (.own (.li ((List.replicate n.toNat x).map enc))) := ee_op op_rep h1 h2 fun σ vs x' y' H hA Q q => by
  have hy := hA.topIm
  unfold rD at hy
  obtain ⟨p, us, rfl, hp, r1⟩ := hA.pop.srcS .own
  have l1 : us.length = 1 := r1.len
  refine ⟨p, n, us, rfl, hy, hp, by omega, by omega, ?_, fun w hw => q _ _ (hA.pop.pop.push (Ext.new hw) (t := .own (.li ((List.replicate n.toNat x).map enc))) (F := fun z => z = w) ?_ (fun z e => by rw [e]; exact hw) fun z e => by rw [e, upd_same]; trivial)⟩
  · rw [l1]
    exact Nat.le_trans (by omega : 1 * n.toNat ≤ 1000) (by decide)
  · show rM _ _ _ _ _
    unfold rM
    have e : (List.replicate n.toNat [enc x]).flatten = (List.replicate n.toNat x).map enc := by
      rw [List.map_replicate]
      induction n.toNat with
      | zero => rfl
      | succ k ih => rw [List.replicate_succ, List.replicate_succ, List.flatten_cons, ih] <;> rfl
    rw [← e]
    exact ⟨w, _, rfl, upd_same, (r1.rep _).tf (Ext.new hw).tf, fun _ => Iff.rfl⟩
/-! ### what may be None -/
/-! ### max, min of two numbers -/
end
end RL

set_option maxHeartbeats 4000000
/-! RL24: zip, list(..), pop(i), a list unpacked -/
namespace RL
open PySem L2 PySem.Spec PyProof.Rows
def ZP (K : PySem.W.Frag) (ds es : List D) (v : V) (H : Hp) : Prop := ∃ (a b : Addr) (us ws : List V), v = .str ⟨#[a, b]⟩ ∧ SqT K H a us ∧ SqT K H b ws ∧ rDs K ds us H ∧ rDs K es ws H
theorem ZP.st {K : PySem.W.Frag} {ds es : List D} {v : V} : ∀ H H', TF H H' → ZP K ds es v H → ZP K ds es v H' := fun H H' t ⟨a, b, us, ws, e, h1, h2, h3, h4⟩ => ⟨a, b, us, ws, e, t.sqt h1, t.sqt h2, h3.tf t, h4.tf t⟩
section
variable {X : Cx} {C : Cn} {Γ Γ1 Γ2 Γ3 Γ' : Ctx} {Ts Hs : List T} {t t1 t2 t3 : T} {ts : List T} {e a b c tg iter : Expr} {es rest : List Expr} {pos p p2 nm apos cpos : Pos} {nme : Expr} {i j : Nat} {d d1 d2 d3 : D} {ds ds' : List D} {m : M} {b1 b2 k : Bool} {α β : Type} {enc f : α → D} {g : β → D} {xs : List α} {ys : List β} {x y : α} {n n' : Int}
theorem ee_listOf {nmp : Pos} (hm : X.mg "list" = none) (h : EE X C Γ Ts e Γ1 t) (s : SrcQ Γ1 t ds) (hg : Gl X "list" := by rfl) (hK : X.K = C.K := by rfl) (he : starEach [e] X.env = (false, eval e X.env) :: starEach [] X.env := by rfl) (hpl : (backTo pos (starEach [] X.env)).any (·.1) = false := by rfl) : EE X C Γ Ts (.Call (.Name "list" nmp) [e] [] pos) Γ1 (.own (.li ds)) :=
  cb_wk (ts := [t]) (fun σ vs us H hl h Q q => by
    obtain ⟨u, rfl⟩ : ∃ u, us = [u] := List.length_eq_one_iff.mp hl
    obtain ⟨a, ws, e1, hw, rd⟩ := h.srcQ s
    subst e1
    refine ⟨a, ws, rfl, by rw [hK]; exact hw, fun p hp => q _ _ (h.pop.push (Ext.new hp) (t := .own (.li ds)) (F := fun x => x = p) ?_ (fun x e => by rw [e]; exact hp) fun x e => by rw [e, upd_same]; trivial)⟩
    show rM _ _ _ _ _
    unfold rM
    exact ⟨p, ws, rfl, upd_same, rd.tf (Ext.new hp).tf, fun _ => Iff.rfl⟩) (pe_callTy call_list_of hg hm (by decide +kernel) (ea_cons h ea_nil he) (by decide) (by decide) he hpl)
end
end RL

set_option maxHeartbeats 4000000
/-! RL25: pop(i), lists unpacked, tables -/
namespace RL
open PySem L2 PySem.Spec PyProof.Rows
def popI {α : Type} (xs : List α) (n : Int) : Option (α × List α) := (ixN xs.length n).bind fun j => (xs[j]?).map fun x => (x, xs.eraseIdx j)
def two {α : Type} : List α → Option (α × α)
  | [a, b] => some (a, b)
  | _ => none
theorem map_erase {α β : Type} (f : α → β) : ∀ (l : List α) (k : Nat), (l.map f).eraseIdx k = (l.eraseIdx k).map f
  | [], k => rfl
  | x :: l, 0 => rfl
  | x :: l, k + 1 => by
    show f x :: (l.map f).eraseIdx k = f x :: (l.eraseIdx k).map f
    rw [map_erase f l k]
theorem rDs.erase {K : PySem.W.Frag} {H : Hp} : ∀ {ds : List D} {us : List V} (j : Nat), rDs K ds us H → rDs K (ds.eraseIdx j) (us.eraseIdx j) H
  | [], us, j, h => by unfold rDs at h; subst h; show rDs K [] [] H; unfold rDs; rfl
  | d :: ds, us, 0, h => by
    unfold rDs at h
    obtain ⟨w, ws, rfl, r, s⟩ := h
    exact s
  | d :: ds, us, j + 1, h => by
    unfold rDs at h
    obtain ⟨w, ws, rfl, r, s⟩ := h
    show rDs K (d :: ds.eraseIdx j) (w :: ws.eraseIdx j) H
    unfold rDs
    exact ⟨w, _, rfl, r, s.erase j⟩
theorem rDs.set {K : PySem.W.Frag} {H : Hp} {d0 : D} {v0 : V} (r0 : rD K d0 v0 H) : ∀ {ds : List D} {us : List V} (j : Nat), rDs K ds us H → rDs K (ds.set j d0) (us.set j v0) H
  | [], us, j, h => by unfold rDs at h; subst h; show rDs K [] [] H; unfold rDs; rfl
  | d :: ds, us, 0, h => by
    unfold rDs at h
    obtain ⟨w, ws, rfl, r, s⟩ := h
    show rDs K (d0 :: ds) (v0 :: ws) H
    unfold rDs
    exact ⟨_, _, rfl, r0, s⟩
  | d :: ds, us, j + 1, h => by
    unfold rDs at h
    obtain ⟨w, ws, rfl, r, s⟩ := h
    show rDs K (d :: ds.set j d0) (w :: ws.set j v0) H
    unfold rDs
    exact ⟨w, _, rfl, r, rDs.set r0 j s⟩
section
variable {X : Cx} {C : Cn} {Γ Γ1 Γ2 Γ3 Γ' : Ctx} {Ts Hs : List T} {t t1 t2 t3 : T} {ts : List T} {e a b c tg iter : Expr} {es rest : List Expr} {pos p p2 nm apos cpos : Pos} {nme : Expr} {i j : Nat} {d d1 d2 d3 : D} {ds ds' : List D} {m : M} {b1 b2 k : Bool} {α β : Type} {enc f : α → D} {g : β → D} {xs ys : List α} {x y : α} {n n' : Int} {o : O} {sts : List Stmt}
theorem ee_popAtE {q : α × List α} (j : Nat) (hn : PE X nme (tVar j)) (hj : Γ[j]? = some (some (.li ds'))) (h1 : EE X C Γ (Ts ++ [.al j]) e Γ1 (.im (.int n))) (hj1 : Γ1[j]? = some (some (.li (xs.map enc)))) (hq : popI xs n = some q) (hl : xs.length ≤ 1000000)
    (hbase : attributeBase nme "pop" X.env (eval nme X.env) = eval nme X.env := by rfl)
    (hfew : ((backTo cpos (starEach [e] X.env)).all (fun x => !x.1) && (backToKw cpos (keywordEach [] X.env)).all (fun x => x.1.isSome)
      && decide ([e].length + ([] : List Keyword).length + (if ([] : List Keyword).isEmpty then 0 else 1) < 30)) = true := by rfl)
    (hline : (apos.endLine == cpos.line) = true := by rfl) (hs : starEach [e] X.env = (false, eval e X.env) :: starEach [] X.env := by rfl) (hplain : (backTo cpos (starEach [] X.env)).any (·.1) = false := by rfl) :
    EE X C Γ Ts (.Call (.Attribute nme "pop" apos) [e] [] cpos) (Γ1.set j (some (.li (q.2.map enc)))) (.im (enc q.1)) := by
  refine (pe_bm PySem.F.plainAttrs_list PySem.F.slot_list_pop PySem.F.type_list_pop mt_popAt (ee_al (C := C) (Γ := Γ) (Ts := Ts) j hn hj) (ea_cons h1 ea_nil hs) hbase hfew hline hs hplain).wk fun σ H Q ⟨vs, h, qq⟩ => ⟨vs, h, fun v H1 h1 => ?_⟩
  obtain ⟨a0, us0, e0, hl0, _⟩ := h1.srcS (.al hj)
  subst e0
  refine ⟨tyV_lst hl0, vs ++ [.ref a0], h1, fun us H2 hlen h2 => ?_⟩
  obtain ⟨u, rfl⟩ : ∃ u, us = [u] := List.length_eq_one_iff.mp hlen
  have rd := h2.topIm
  unfold rD at rd
  subst rd
  have h3 := h2.pop
  obtain ⟨a1, us1, e1, hl1, rd1⟩ := h3.srcS (.al hj1)
  cases e1
  obtain ⟨a2, us2, hσ, hl2, rd2, put⟩ := h3.pop.lset hj1
  have ea : a2 = a0 := by
    obtain ⟨F, ⟨g, _⟩, _⟩ := h3.top
    rw [hσ] at g
    injection g with g; injection g with g; injection g
  subst ea
  rw [hl1] at hl2
  cases hl2
  unfold popI at hq
  obtain ⟨l, hx, hq⟩ := bsplit hq
  have ll := rd1.len
  rw [List.length_map] at ll
  obtain ⟨s1, s2, s3, s4⟩ := ixN_seq hx
  have hxs : xs[l]? = some xs[l] := List.getElem?_eq_getElem s2
  rw [hxs] at hq
  cases hq
  obtain ⟨u, hu, ru⟩ := rd1.get (i := l) (d := enc xs[l]) (by rw [List.getElem?_map, hxs] <;> rfl)
  have rde := rd1.erase l
  rw [map_erase] at rde
  refine ⟨a2, us1, n, l, u, rfl, rfl, hl1, by omega, by omega, by rw [ll]; exact s1, hu, qq _ _ ((put _ _ rde).pushIm Ext.refl (ru.tf (TF.write ?_)))⟩
  rw [hl1]
  trivial
/-! ### targets that change the heap -/
def gru (C : Cn) (Γ : Ctx) (Hs : List T) (d : D) (Γ' : Ctx) : TG := fun v σ H Q => ∃ hs, As C Γ Hs σ hs H ∧ rD C.K d v H ∧ ∀ σ' H', TF H H' → As C Γ' Hs σ' hs H' → Q σ' H'
abbrev GU (X : Cx) (C : Cn) (Hs : List T) (Γ : Ctx) (tg : Expr) (d : D) (Γ' : Ctx) : Prop := PG X tg (gru C Γ Hs d Γ')
def grus (C : Cn) (Γ : Ctx) (Hs : List T) (ds : List D) (Γ' : Ctx) : TGs := fun vs σ H Q => ∃ hs, As C Γ Hs σ hs H ∧ rDs C.K ds vs H ∧ ∀ σ' H', TF H H' → As C Γ' Hs σ' hs H' → Q σ' H'
abbrev GUs (X : Cx) (C : Cn) (Hs : List T) (Γ : Ctx) (tgs : List Expr) (ds : List D) (Γ' : Ctx) : Prop := PGs X tgs (grus C Γ Hs ds Γ')
theorem gus_nil : GUs X C Hs Γ [] [] Γ := pgs_nil.wk fun v σ H Q ⟨hs, h, r, q⟩ => by
  unfold rDs at r
  exact ⟨r, q σ H TF.refl h⟩
theorem gus_cons (h1 : GU X C Hs Γ e d Γ1) (h2 : GUs X C Hs Γ1 es ds Γ2) (hs : (assignEach (e :: es) X.env).map (·.2) = assign e X.env :: (assignEach es X.env).map (·.2) := by rfl) : GUs X C Hs Γ (e :: es) (d :: ds) Γ2 := (pgs_cons h1 h2 hs).wk fun v σ H Q ⟨hs, h, r, q⟩ => by
  unfold rDs at r
  obtain ⟨w, ws, e1, r1, r2⟩ := r
  exact ⟨w, ws, e1, hs, h, r1, fun σ1 H1 t1 h1 => ⟨hs, h1, r2.tf t1, fun σ2 H2 t2 h2 => q σ2 H2 (t1.trans t2) h2⟩⟩
theorem gu_tup {kk : Nat} (hc : X.calm = true) (h : GUs X C Hs Γ es ds Γ1) (hK : X.K = C.K := by rfl) (hn : (assignEach es X.env).length = ds.length := by rfl) (hst : (assignEach es X.env).findIdx? (·.1) = none := by rfl) : GU X C Hs Γ (.Tuple es kk pos) (.tup ds) Γ1 := (pg_tup hc h hn hst).wk fun v σ H Q ⟨hs, h, r, q⟩ => by
  unfold rD at r
  obtain ⟨a, vs, e1, r1, r2⟩ := r
  exact ⟨a, vs, e1, by rw [hK]; exact r1.t, r2.len, hs, h, r2, q⟩
theorem s_unpU {kk : Nat} (he : EE X C Γ Hs e Γ1 (.im d)) (hg : GU X C Hs Γ1 (.Tuple es kk p) d Γ2) (hs : swapsWithSole [.Tuple es kk p] e pos.line X.env = pure false := by rfl) (hw : swappedStores [.Tuple es kk p] e X.env = pure none := by rfl)
    (h1 : (assignEach [.Tuple es kk p] X.env).map (·.2) = [assign (.Tuple es kk p) X.env] := by rfl) : S1 X C Hs Γ (.Assign [.Tuple es kk p] e pos) (.nx Γ2) :=
  (ps_asg he hg hs hw h1).wk fun σ H D ⟨⟨hs, h⟩, q⟩ => ⟨hs, h, fun v H1 h1 => ⟨hs, h1.pop, h1.topIm, fun σ' H' _ h2 => q σ' hs H' h2⟩⟩
end
end RL

set_option maxHeartbeats 4000000
/-! RL26: tables: lists of lists that change -/
namespace RL
open PySem L2 PySem.Spec PyProof.Rows
/-- things are locked, one after another -/
inductive Lk : Hp → (Hp → Prop) → Prop where
  | done {H : Hp} {P : Hp → Prop} (h : P H) : Lk H P
  | step {H : Hp} {P : Hp → Prop} {a : Addr} {u : HO} (e : H a = some u) (mu : Mut (some u)) (k : ∀ od, Lk (upd H a (.frz od u)) P) : Lk H P
theorem pss_lk {X : Cx} {sts : List Stmt} {t : TS} (h : PSs X sts t) : PSs X sts (fun D σ H => Lk H (t D σ)) := ⟨fun pins s σ H D I q => by
  generalize eP : t D σ = P at q
  induction q with
  | done z => subst eP; exact h.run pins s σ _ D I z
  | step e mu k ih =>
    obtain ⟨od, I2⟩ := I.lock e mu
    exact ih od I2 eP⟩
abbrev tbl {α : Type} (f : α → D) (rows : List (List α)) : M := .ll (rows.map fun r => .li (r.map f))
abbrev tblD {α : Type} (f : α → D) (rows : List (List α)) : D := .lst (rows.map fun r => .lst (r.map f))
theorem Lk.mono {H : Hp} {P Q : Hp → Prop} (h : Lk H P) (k : ∀ H', P H' → Q H') : Lk H Q := by
  induction h with
  | done z => exact .done (k _ z)
  | step e mu _ ih => exact .step e mu fun od => ih od k
theorem Lk.bind {H : Hp} {P Q : Hp → Prop} (h : Lk H P) (k : ∀ H', P H' → Lk H' Q) : Lk H Q := by
  induction h with
  | done z => exact k _ z
  | step e mu _ ih => exact .step e mu fun od => ih od k
/-- the rows of a table are locked -/
theorem rMs.lk {α : Type} {f : α → D} {K : PySem.W.Frag} : ∀ {rows : List (List α)} {us : List V} {F : FS} {H : Hp}, rMs K (rows.map fun r => M.li (r.map f)) us H F →
    Lk H (fun H' => rDs K (rows.map fun r => D.lst (r.map f)) us H' ∧ TF H H' ∧ ∀ a, ¬ F a → H' a = H a)
  | [], us, F, H, h => by
    have h : rMs K [] us H F := h
    unfold rMs at h
    refine .done ⟨?_, TF.refl, fun _ _ => rfl⟩
    show rDs K [] us H
    unfold rDs
    exact h.1
  | r :: rows, us, F, H, h => by
    have h : rMs K (M.li (r.map f) :: rows.map fun r => M.li (r.map f)) us H F := h
    unfold rMs at h
    obtain ⟨w, ws, Fa, Fb, rfl, r1, r2, dj, hf⟩ := h
    unfold rM at r1
    obtain ⟨a, vs, rfl, hl, rd, hF⟩ := r1
    refine .step (a := a) hl trivial fun od => ?_
    have mu : Mut (H a) := by rw [hl]; trivial
    have tf : TF H (upd H a (.frz od (.lst vs))) := TF.write mu
    have r2' : rMs K (rows.map fun r => M.li (r.map f)) ws (upd H a (.frz od (.lst vs))) Fb := rMs.st tf (fun b hb => upd_ne fun z => dj b ((hF b).2 z) hb) r2
    refine (rMs.lk r2').mono fun H' ⟨k1, k2, k3⟩ => ?_
    have ha : a ∈ [a] := by simp
    refine ⟨?_, tf.trans k2, fun b nb => ?_⟩
    · show rDs K (D.lst (r.map f) :: rows.map fun r => D.lst (r.map f)) (V.ref a :: ws) H'
      unfold rDs
      refine ⟨_, _, rfl, ?_, k1⟩
      unfold rD
      exact ⟨a, vs, rfl, .inl ⟨od, k2.2 _ _ _ upd_same⟩, (rd.tf tf).tf k2⟩
    · rw [k3 b fun z => nb ((hf b).2 (.inr z))]
      exact upd_ne fun z => nb ((hf b).2 (.inl ((hF b).2 z)))
section
variable {X : Cx} {C : Cn} {Γ Γ1 Γ2 Γ3 Γ' : Ctx} {Ts Hs : List T} {t t1 t2 t3 : T} {ts : List T} {e a b c tg iter elt : Expr} {es rest : List Expr} {pos p p2 nm apos cpos : Pos} {nme : Expr} {i j : Nat} {d d1 d2 d3 : D} {ds ds' : List D} {m : M} {b1 b2 k : Bool} {α β : Type} {enc f : α → D} {g : β → D} {xs ys : List α} {x y : α} {n n' : Int} {o : O} {sts : List Stmt} {rows : List (List α)}
/-- the table in the slot i is locked -/
theorem ss_lockT (i : Nat) (hi : Γ[i]? = some (some (tbl f rows))) (h : SS X C Hs (Γ.set i (some (.im (tblD f rows)))) sts o) : SS X C Hs Γ sts o := (pss_lk h).wk fun σ H D ⟨⟨hs, h0⟩, q⟩ => by
  obtain ⟨w, F, hw, r, up⟩ := h0.slot hi
  unfold rM at r
  obtain ⟨a, us, F0, rfl, ho, rs, hn, hf⟩ := r
  refine (rMs.lk rs).bind fun H1 ⟨k1, k2, k3⟩ => ?_
  have h1 : H1 a = some (.lst us) := (k3 a hn).trans ho
  refine .step (a := a) h1 trivial fun od => .done ⟨⟨hs, ?_⟩, q⟩
  have mu : Mut (H1 a) := by rw [h1]; trivial
  have tf : TF H1 (upd H1 a (.frz od (.lst us))) := TF.write mu
  refine up (.im (tblD f rows)) _ e0 (k2.trans tf) (fun b nb _ => (upd_ne fun z => nb ((hf b).2 (.inl z))).trans (k3 b fun z => nb ((hf b).2 (.inr z)))) ?_ fun b z => z.elim
  unfold rM
  refine ⟨?_, fun _ z => z⟩
  unfold rD
  exact ⟨a, us, rfl, .inl ⟨od, upd_same⟩, k1.tf tf⟩
/-- a cell of a table: x[i][j] = .. -/
def setT {α : Type} (rows : List (List α)) (n n' : Int) (x : α) : Option (List (List α)) := (ixN rows.length n).bind fun i => (rows[i]?).bind fun r => (ixN r.length n').map fun j => rows.set i (r.set j x)
theorem gu_cell {rows' : List (List α)} (l : Nat) (hn : PE X nme (tVar l)) (hj : Γ[l]? = some (some (tbl f rows))) (h1 : EQ X C Γ a (.int n)) (h2 : EQ X C Γ b (.int n')) (hr : setT rows n n' x = some rows') (hs : PlainIx a := by exact fun _ _ => rfl)
    (ha : ∀ v, assign (.Subscript (.Subscript nme a p) b pos) X.env v = (do
      let ov ← holding [v] (eval (.Subscript nme a p) X.env)
      let iv ← holding [v, ov] (eval b X.env)
      standAt pos
      holding [v, ov, iv] (setItem ov iv v)
      release [v, ov, iv] []) := by intro _; rfl) :
    GU X C Hs Γ (.Subscript (.Subscript nme a p) b pos) (f x) (Γ.set l (some (tbl f rows'))) := by
  obtain ⟨t1, p1, q1⟩ := h1
  obtain ⟨t2, p2, q2⟩ := h2
  refine (pg_sub (pe_ix ix_list hn p1 hs) p2 set_list ha).wk fun v σ H Q ⟨hs, h, r, q⟩ => ?_
  unfold setT at hr
  obtain ⟨i0, hi0, hr⟩ := bsplit hr
  obtain ⟨row, hrow, hr⟩ := bsplit hr
  cases hj0 : ixN row.length n' with
  | none => rw [hj0] at hr; cases hr
  | some j0 =>
    rw [hj0] at hr
    cases hr
    have sub : (tbl f rows).sub (.i n) = some (.li (row.map f)) := by
      show atI (rows.map fun r => M.li (r.map f)) n = _
      unfold atI
      rw [List.length_map, hi0]
      show (rows.map fun r => M.li (r.map f))[i0]? = _
      rw [List.getElem?_map, hrow] <;> rfl
    obtain ⟨w, a0, us, hw, ⟨pw, uw, rfl, ho, hat⟩, hl, rd, put⟩ := h.zset hj sub
    refine ⟨.ref pw, hw, q1 σ H _ _ _ h fun y ry => ?_⟩
    unfold rD at ry
    refine ⟨pw, uw, n, .ref a0, rfl, ry, SqL.of ho, hat, q2 σ H _ _ _ h fun y2 ry2 => ?_⟩
    unfold rD at ry2
    have l1 := rd.len
    rw [List.length_map] at l1
    have z := put (us.set j0 v) ((row.map f).set j0 (f x)) (rDs.set r j0 rd)
    refine ⟨a0, us, n', j0, rfl, ry2, hl, by rw [l1]; exact hj0, q σ _ (TF.write (by rw [hl]; trivial)) ?_⟩
    have e : (tbl f rows).chg (.i n) (.li ((row.map f).set j0 (f x))) = tbl f (rows.set i0 (row.set j0 x)) := by
      show M.ll (setI (rows.map fun r => M.li (r.map f)) n _) = _
      unfold setI
      rw [List.length_map, hi0]
      show M.ll ((rows.map fun r => M.li (r.map f)).set i0 (.li ((row.map f).set j0 (f x)))) = M.ll ((rows.set i0 (row.set j0 x)).map fun r => M.li (r.map f))
      rw [List.map_set, List.map_set]
    rw [e] at z
    exact z
/-! ### a table is made -/
theorem rMs.snoc {K : PySem.W.Frag} {H : Hp} {m1 : M} {y1 : V} {Fm : FS} (r : rM K m1 y1 H Fm) : ∀ {ms : List M} {us : List V} {F : FS}, rMs K ms us H F → Dj F Fm → rMs K (ms ++ [m1]) (us ++ [y1]) H (fun a => F a ∨ Fm a)
  | [], us, F, h, dj => by
    unfold rMs at h
    rw [h.1]
    show rMs K [m1] [y1] H _
    unfold rMs
    exact ⟨y1, [], Fm, e0, rfl, r, by unfold rMs; exact ⟨rfl, fun _ z => z⟩, Dj.e0r, fun a => ⟨fun z => z.elim (fun y => absurd y (h.2 a)) .inl, fun z => z.elim .inr fun y => y.elim⟩⟩
  | m0 :: ms, us, F, h, dj => by
    unfold rMs at h
    obtain ⟨w, ws, Fa, Fb, rfl, r1, r2, dj0, f⟩ := h
    have ih := rMs.snoc r r2 fun a y1 y2 => dj a ((f a).2 (.inr y1)) y2
    show rMs K (m0 :: (ms ++ [m1])) (w :: (ws ++ [y1])) H _
    unfold rMs
    refine ⟨w, _, Fa, _, rfl, r1, ih, fun a y1 y2 => y2.elim (dj0 a y1) (dj a ((f a).2 (.inl y1))), fun a => ⟨fun z => ?_, fun z => ?_⟩⟩
    · rcases z with z | z
      · exact ((f a).1 z).imp id .inl
      · exact .inr (.inr z)
    · rcases z with z | z | z
      · exact .inl ((f a).2 (.inl z))
      · exact .inl ((f a).2 (.inr z))
      · exact .inr z
theorem As.unhide {σ : L2.St} {vs : List V} {q y : V} {H : Hp} (h : As C Γ (Ts ++ [.hid m q] ++ [t]) σ (vs ++ [q] ++ [y]) H) : As C Γ (Ts ++ [.own m] ++ [t]) σ (vs ++ [q] ++ [y]) H := by
  obtain ⟨fp, W⟩ := h
  have ln := W.ln
  refine ⟨fp, W.lg, by simpa using ln, W.sl, fun k t' hk => ?_, W.dj, W.sn, W.mu, W.fr, W.pn⟩
  by_cases e : k = Ts.length
  · subst e
    have e1 : (Ts ++ [T.own m] ++ [t])[Ts.length]? = some (.own m) := by simp
    have e2 : (Ts ++ [T.hid m q] ++ [t])[Ts.length]? = some (.hid m q) := by simp
    rw [e1] at hk
    cases hk
    obtain ⟨v, hv, _, r⟩ := W.tp _ _ e2
    exact ⟨v, hv, r⟩
  · have e3 : (Ts ++ [T.hid m q] ++ [t])[k]? = some t' := by
      by_cases hl : k < Ts.length
      · simp only [List.append_assoc] at hk ⊢
        rw [List.getElem?_append_left hl] at hk ⊢
        exact hk
      · have hl2 : Ts.length ≤ k := by omega
        simp only [List.append_assoc] at hk ⊢
        rw [List.getElem?_append_right hl2] at hk ⊢
        obtain ⟨k', hk'⟩ : ∃ k', k - Ts.length = k' + 1 := ⟨k - Ts.length - 1, by omega⟩
        rw [hk'] at hk ⊢
        simpa using hk
    exact W.tp _ _ e3
/-- a new thing goes into the list that is made -/
theorem As.absorb {σ : L2.St} {vs : List V} {q y : V} {H : Hp} {acc : List M} (h : As C Γ (Ts ++ [.hid (.ll acc) q] ++ [.own m]) σ (vs ++ [q] ++ [y]) H) : ∃ a us, q = .ref a ∧ H a = some (.lst us) ∧ us.length = acc.length ∧
    As C Γ (Ts ++ [.hid (.ll (acc ++ [m])) q]) σ (vs ++ [q]) (upd H a (.lst (us ++ [y]))) := by
  have h1 := h.unhide
  have h2 : As C Γ (Ts ++ [M.ll acc, m].map T.own) σ (vs ++ [q, y]) H := by simpa using h1
  obtain ⟨fp, G, B⟩ := blob_own h2 rfl
  have r := B.r
  unfold rMs at r
  obtain ⟨w, ws, F1, F2, e, r1, r2, dj, f⟩ := r
  cases e
  unfold rMs at r2
  obtain ⟨w2, ws2, F3, F4, e, r3, r4, dj2, f2⟩ := r2
  cases e
  unfold rMs at r4
  have n4 := r4.2
  unfold rM at r1
  obtain ⟨a, us, F0, rfl, ho, rs, hn, hf⟩ := r1
  have mu : Mut (H a) := by rw [ho]; trivial
  have tf : TF H (upd H a (.lst (us ++ [y]))) := TF.write mu
  have F3a : ∀ b, F2 b ↔ F3 b := fun b => ⟨fun z => ((f2 b).1 z).elim id fun z => absurd z (n4 b), fun z => (f2 b).2 (.inl z)⟩
  have na3 : ¬ F3 a := fun z => dj a ((hf a).2 (.inl rfl)) ((F3a a).2 z)
  have dj3 : Dj F0 F3 := fun b z1 z2 => dj b ((hf b).2 (.inr z1)) ((F3a b).2 z2)
  have rn := rMs.snoc (r3.st tf (fun b hb => upd_ne fun z => na3 (z ▸ hb))) (rMs.st tf (fun b hb => upd_ne fun z => hn (z ▸ hb)) rs) dj3
  refine ⟨a, us, rfl, ho, rs.len, ?_⟩
  have B2 := B.chg (H' := upd H a (.lst (us ++ [y]))) (G' := G) (ms' := [.ll (acc ++ [m])]) (us' := [.ref a]) (fun b o e ng => (upd_ne fun z => ng ((f b).2 (.inl ((hf b).2 (.inl z))))).trans e) (by
    unfold rMs
    refine ⟨_, [], G, e0, rfl, ?_, by unfold rMs; exact ⟨rfl, fun _ z => z⟩, Dj.e0r, fun b => ⟨.inl, fun z => z.elim id fun y => y.elim⟩⟩
    unfold rM
    refine ⟨a, _, _, rfl, upd_same, rn, fun z => z.elim hn na3, fun b => ⟨fun z => ?_, fun z => ?_⟩⟩
    · rcases (f b).1 z with z | z
      · exact ((hf b).1 z).imp id .inl
      · exact .inr (.inr ((F3a b).1 z))
    · rcases z with z | z | z
      · exact (f b).2 (.inl ((hf b).2 (.inl z)))
      · exact (f b).2 (.inl ((hf b).2 (.inr z)))
      · exact (f b).2 (.inr ((F3a b).2 z))) fun b z => .inl z
  obtain ⟨fq, G2, B3⟩ := B2.uncons
  exact B3.as.hide
end
end RL

set_option maxHeartbeats 4000000
/-! RL27: comprehensions that make lists of new things -/
namespace RL
open PySem L2 PySem.Spec PyProof.Rows
section
variable {X : Cx} {C : Cn} {Γ Γ1 Γ2 Γ0 Γ' : Ctx} {Ts Hs : List T} {t : T} {e a b c tg iter elt : Expr} {pos p nm spos : Pos} {i j : Nat} {d : D} {ds : List D} {m : M} {k : Bool} {hx : V → T} {cond : Ctx → Prop} {α : Type} {enc : α → D} {mr : α → M} {xs : List α} {Γt : α → Ctx} {own : List (Str × Nat)} {scope : Scope} {n n' : Int}
structure LcL (X : Cx) (C : Cn) (Ts : List T) (Γ : Ctx) (tg iter elt : Expr) (scope : Scope) (own : List (Str × Nat)) (mr : α → M) (enc : α → D) (xs : List α) (Γ0 : Ctx) (Γt : α → Ctx) (hx : V → T) (cond : Ctx → Prop) : Prop where
  fx : Fix hx
  it : IT X C Ts tg iter Γ Γ0 hx cond (xs.map enc)
  cd : cond Γ0
  gt : ∀ (s : Shared) (H : Hp) (Ca : Addr) (cl : List (Str × Addr)) (fp : List Addr) (v q : V) (acc : List M) (x : α), GT (X.blk s H scope (compEnvC scope cl Ca X.env) fp) C (Ts ++ [hx v] ++ [.hid (.ll acc) q]) Γ0 tg (enc x) (Γt x) (own.map (·.2))
  el : ∀ (s : Shared) (H : Hp) (Ca : Addr) (cl : List (Str × Addr)) (fp : List Addr) (v q : V) (acc : List M) (x : α), EE (X.blk s H scope (compEnvC scope cl Ca X.env) fp) C (Γt x) (Ts ++ [hx v] ++ [.hid (.ll acc) q]) elt Γ0 (.own (mr x))
  br : Bare (own.map (·.2)) Γ0
  fr : FreeJ (own.map (·.2)) Ts
  fh : ∀ v, FreeJ (own.map (·.2)) [hx v]
  pn : ∀ p ∈ C.pin, p.1 ∉ own.map (·.2)
  ln : xs.length ≤ sizeLine
def llG (C : Cn) (Ts : List T) (own : List (Str × Nat)) (enc : α → D) (Γ0 : Ctx) (Γt : α → Ctx) (hx : V → T) : TG := fun v σ H Q => ∃ q : V × V × List M × α, True ∧ gr C Γ0 (Ts ++ [hx q.1] ++ [.hid (.ll q.2.2.1) q.2.1]) (enc q.2.2.2) (Γt q.2.2.2) (own.map (·.2)) v σ H Q
def llE (C : Cn) (Ts : List T) (mr : α → M) (Γ0 : Ctx) (Γt : α → Ctx) (hx : V → T) : TE := fun σ H Q => ∃ q : V × V × List M × α, True ∧ er C (Γt q.2.2.2) (Ts ++ [hx q.1] ++ [.hid (.ll q.2.2.1) q.2.1]) Γ0 (.own (mr q.2.2.2)) σ H Q
theorem LcL.sat (L : LcL X C Ts Γ tg iter elt scope own mr enc xs Γ0 Γt hx cond) {σ : L2.St} {vs : List V} {H : Hp} {Q : VK} (h0 : As C Γ Ts σ vs H) (q : ∀ z H', As C Γ0 (Ts ++ [.own (.ll (xs.map mr))]) σ (vs ++ [z]) H' → Q z H') :
    tLc (ir C Γ Ts Γ0 hx cond (xs.map enc)) (llG C Ts own enc Γ0 Γt hx) tYes (llE C Ts mr Γ0 Γt hx) (own.map (·.2)) σ H Q := by
  refine ⟨vs, h0, fun v Ji H1 hA ⟨G, Y, w, g1, g2⟩ Dd hD => ?_⟩
  rw [List.length_map] at w g2
  have fr2 : FreeJ (own.map (·.2)) (Ts ++ [hx v]) := fun i hi => (L.fr i hi).append (L.fh v i hi)
  have fr3 : ∀ acc, FreeJ (own.map (·.2)) (Ts ++ [hx v] ++ [.hid (.ll acc) (.ref Dd)]) := fun acc i hi => (fr2 i hi).append ⟨trivial, trivial⟩
  have hA1 : As C Γ0 (Ts ++ [hx v]) (wipe σ (own.map (·.2))) (vs ++ [v]) H1 := hA.sig (wipe_length _ _) (fun i hi => wipe_out hi) L.br fr2 L.pn
  have hA2 : As C Γ0 (Ts ++ [hx v] ++ [.hid (.ll []) (.ref Dd)]) (wipe σ (own.map (·.2))) (vs ++ [v] ++ [.ref Dd]) (upd H1 Dd (.lst [])) := by
    refine hA1.push (Ext.new hD) (t := .hid (.ll []) (.ref Dd)) (F := fun a => a = Dd) ⟨rfl, ?_⟩ (fun a e => by rw [e]; exact hD) fun a e => by rw [e, upd_same]; trivial
    unfold rM
    refine ⟨Dd, [], e0, rfl, upd_same, by unfold rMs; exact ⟨rfl, fun _ z => z⟩, fun z => z, fun b => ⟨.inl, fun z => z.elim id fun y => y.elim⟩⟩
  refine lc_it (g := llG C Ts own enc Γ0 Γt hx) (tt := tYes) (te := llE C Ts mr Γ0 Γt hx) w (fun i H => ∃ (acc : List M), As C Γ0 (Ts ++ [hx v] ++ [.hid (.ll acc) (.ref Dd)]) (wipe σ (own.map (·.2))) (vs ++ [v] ++ [.ref Dd]) H ∧ xs.map mr = acc ++ (xs.drop i).map mr ∧ acc.length ≤ i)
    ⟨[], hA2, by simp, Nat.le_refl _⟩ (fun i H hi ⟨acc, hB, _⟩ => g1 _ _ _ H L.cd hB.pop) (fun i x H H' hi ⟨acc, hB, hy, hlen⟩ y => ?_) (fun H ⟨acc, hB, hy, _⟩ => ?_)
  · obtain ⟨ex, d, hd, rd⟩ := g2 i H x H' hi (g1 _ _ _ H L.cd hB.pop) y
    rw [List.getElem?_map, List.getElem?_eq_getElem hi] at hd
    cases hd
    refine ⟨(v, .ref Dd, acc, xs[i]), trivial, _, hB.ext ex, rd, fun σ2 ag h2 => ?_⟩
    refine ⟨by rw [wipe_of ag, wipe_wipe], ?_⟩
    have ag2 : Agree (own.map (·.2)) (wipe σ (own.map (·.2))) σ2 := ag
    unfold tYes
    dsimp only
    rw [if_pos rfl]
    refine ⟨(v, .ref Dd, acc, xs[i]), trivial, _, h2, fun yv H4 h4 => ?_⟩
    obtain ⟨a5, us5, ea, hl5, l5, h6⟩ := h4.absorb
    cases ea
    refine ⟨us5, hl5, by rw [l5]; exact Nat.lt_of_le_of_lt hlen (Nat.lt_of_lt_of_le hi L.ln), acc ++ [mr xs[i]], ?_, ?_, by simp; omega⟩
    · exact h6.sig (by rw [ag2.1]) (fun i hi => (ag2.2 i hi).symm) L.br (fr3 _) L.pn
    · rw [hy, List.drop_eq_getElem_cons hi, List.map_cons, List.append_assoc]
      rfl
  · rw [List.drop_length, List.map_nil, List.append_nil] at hy
    rw [← hy] at hB
    have h7 : As C Γ0 (Ts ++ [.own (.ll (xs.map mr))]) (wipe σ (own.map (·.2))) (vs ++ [.ref Dd]) H := by
      obtain ⟨F, ⟨_, r⟩, up⟩ := hB.top
      have z : As C Γ0 (Ts ++ [hx v] ++ [.own (.ll (xs.map mr))]) (wipe σ (own.map (·.2))) (vs ++ [v] ++ [.ref Dd]) H := up (.own (.ll (xs.map mr))) (.ref Dd) H F TF.refl (fun _ _ _ => rfl) r (fun a ha => .inl ha) fun a ha => rM.mut r ha
      exact z.mid
    exact q (.ref Dd) H (h7.sig (wipe_length _ _).symm (fun i hi => (wipe_out hi).symm) L.br (fun i hi => (L.fr i hi).append ⟨trivial, trivial⟩) L.pn)
theorem ee_lcL (hcm : X.calm = true) (hN : X.N.Nodup) (ok : BlkOk X.N X.env.scope scope own) (L : LcL X C Ts Γ tg iter elt scope own mr enc xs Γ0 Γt hx cond) (hs : ∀ x, foldedSetIterable iter X.env x = pure x := by intro _; rfl) :
    EE X C Γ Ts (.ListComp elt [⟨tg, iter, [], 0⟩] scope pos) Γ0 (.own (.ll (xs.map mr))) := by
  have r := pe_lc (pos := pos) hcm hN L.it ok (g := llG C Ts own enc Γ0 Γt hx) (tt := tYes) (te := llE C Ts mr Γ0 Γt hx)
    (fun s H Ca cl fp => PG.ex (ι := V × V × List M × α) (P := fun _ => True) fun q _ => L.gt s H Ca cl fp q.1 q.2.1 q.2.2.1 q.2.2.2)
    (fun s H Ca cl fp => pts_nil)
    (fun s H Ca cl fp => PE.ex (ι := V × V × List M × α) (P := fun _ => True) fun q _ => L.el s H Ca cl fp q.1 q.2.1 q.2.2.1 q.2.2.2) hs
  exact r.wk fun σ H Q ⟨vs, h0, q⟩ => L.sat h0 q
/-- list(range(n)) -/
theorem ee_listRg {p2 : Pos} (hcm : X.calm = true) (hml : X.mg "list" = none) (hmr : X.mg "range" = none) (h : EE X C Γ Ts a Γ1 (.im (.int n))) (h0 : 0 ≤ n) (hb : n ≤ 1000000) (hgl : Gl X "list" := by rfl) (hgr : Gl X "range" := by rfl)
    (he : starEach [a] X.env = (false, eval a X.env) :: starEach [] X.env := by rfl) (he2 : starEach [.Call (.Name "range" p2) [a] [] nm] X.env = (false, eval (.Call (.Name "range" p2) [a] [] nm) X.env) :: starEach [] X.env := by rfl) :
    EE X C Γ Ts (.Call (.Name "list" p) [.Call (.Name "range" p2) [a] [] nm] [] pos) Γ1 (.own (.li ((rng 0 n).map D.int))) :=
  (pe_listRg hcm hgl hml (prg_1 hgr hmr h he) he2).wk fun σ H Q ⟨vs, h, q⟩ => ⟨vs, h, fun v H1 h1 => by
    have e := h1.topIm
    unfold rD at e
    subst e
    refine ⟨n, rfl, RgOk.of_le (by omega) (by omega) (by omega) h0, fun w hw => q _ _ (h1.pop.push (Ext.new hw) (t := .own (.li ((rng 0 n).map D.int))) (F := fun x => x = w) ?_ (fun x e => by rw [e]; exact hw) fun x e => by rw [e, upd_same]; trivial)⟩
    show rM _ _ _ _ _
    unfold rM
    refine ⟨w, _, rfl, upd_same, ?_, fun _ => Iff.rfl⟩
    unfold rgV rng
    have : ∀ l : List Nat, rDs C.K ((l.map fun i => (0 : Int) + (i : Nat)).map D.int) (l.map fun i => V.int (0 + (i : Nat))) (upd H1 w (.lst (rgV 0 n))) := fun l => by
      induction l with
      | nil => show rDs C.K [] [] _; unfold rDs; rfl
      | cons x l ih =>
        show rDs C.K (D.int _ :: _) (V.int _ :: _) _
        unfold rDs
        exact ⟨_, _, rfl, by unfold rD; rfl, ih⟩
    exact this _⟩
end
end RL

set_option maxHeartbeats 4000000
/-! RL28: names in any order, written dicts looked up -/
namespace RL
open PySem L2 PySem.Spec PyProof.Rows
/-- what is called by names comes in the order of p -/
def prm {α : Type} (p : List Nat) : List α → List α → List α
  | [], ws => p.filterMap fun i => ws[i]?
  | _, _ => []
theorem valsFm {vs : List V} {us : List Value} (r : Vals vs us) : ∀ p : List Nat, Vals (p.filterMap fun i => vs[i]?) (p.filterMap fun i => us[i]?)
  | [] => .nil
  | i :: p => by
    rw [List.filterMap_cons, List.filterMap_cons]
    have l := r.length
    cases e : vs[i]? with
    | none =>
      have e2 : us[i]? = none := by
        rw [List.getElem?_eq_none_iff] at e ⊢
        omega
      rw [e2]
      exact valsFm r p
    | some v =>
      obtain ⟨u, hu, ru⟩ := r.get e
      rw [hu]
      exact .cons ru (valsFm r p)
theorem prm_rel {p : List Nat} {vs : List V} {us : List Value} {zs : List V} {ws : List Value} (r1 : Vals vs us) (r2 : Vals zs ws) : Vals (prm p vs zs) (prm p us ws) := by
  cases r1 with
  | nil => exact valsFm r2 p
  | cons a r1 => exact .nil
theorem rDs.fm {K : PySem.W.Frag} {H : Hp} {ds : List D} {zs : List V} (h : rDs K ds zs H) : ∀ p : List Nat, rDs K (p.filterMap fun i => ds[i]?) (p.filterMap fun i => zs[i]?) H
  | [] => by show rDs K [] [] H; unfold rDs; rfl
  | i :: p => by
    rw [List.filterMap_cons, List.filterMap_cons]
    have l := h.len
    cases e : ds[i]? with
    | none =>
      have e2 : zs[i]? = none := by
        rw [List.getElem?_eq_none_iff] at e ⊢
        omega
      rw [e2]
      exact h.fm p
    | some d =>
      obtain ⟨u, hu, ru⟩ := h.get e
      rw [hu]
      show rDs K (d :: _) (u :: _) H
      unfold rDs
      exact ⟨u, _, rfl, ru, h.fm p⟩
theorem prm_rD {K : PySem.W.Frag} {p : List Nat} {ds : List D} {zs : List V} {H : Hp} (h : rDs K ds zs H) : rDs K (p.filterMap fun i => ds[i]?) (prm p [] zs) H := h.fm p
section
variable {X : Cx} {C : Cn} {Γ Γ1 Γ2 : Ctx} {Ts Hs : List T} {e : Expr} {sts : List Stmt} {o : O} {α β : Type} {f : α → D} {r : List α} {rows : List (List α)} {xs : List β}
theorem eT_tbl (h : (xs.map fun _ => r) = rows) (he : EE X C Γ Ts e Γ1 (.own (.ll (xs.map fun _ => .li (r.map f))))) : EE X C Γ Ts e Γ1 (.own (tbl f rows)) := by
  subst h
  unfold tbl
  rw [List.map_map]
  exact he
end
section
variable {X : Cx} {C : Cn} {Γ Γ1 Γ2 : Ctx} {Ts Hs : List T} {a b : Expr} {pos : Pos} {α : Type} {f : α → D} {l : List (Str × α)} {x : Str} {y : α}
end
end RL

set_option maxHeartbeats 4000000
/-! RL29: typed data compared -/
namespace RL
open PySem L2
/-- == of typed data is their being equal -/
structure EqT {α : Type} [DecidableEq α] (f : α → D) (k : Nat) : Prop where
  ok : ∀ x, (f x).ok = true
  dp : ∀ x, (f x).p.depth ≤ k
  eq : ∀ x y, PyData.eqv (f x).p (f y).p = decide (x = y)
section
variable {X : Cx} {C : Cn} {Γ Γ1 Γ2 : Ctx} {Ts : List T} {a b : Expr} {pos : Pos} {α : Type} [DecidableEq α] {f : α → D} {k : Nat} {x y : α}
end
/-- the test of a comprehension that may fall short -/
def tbo (o : Option Bool) : Bool := o.getD false
theorem tbo_t {o : Option Bool} {t : Bool} (h : o = some t) : tbo o = t := by rw [h] <;> rfl
section
variable {X : Cx} {C : Cn} {Γ Γ1 Γ2 : Ctx} {Ts : List T} {a b : Expr} {pos : Pos} {o : Option Int} {n : Int}
end
section
variable {X : Cx} {C : Cn} {Γ Γ1 Γ2 : Ctx} {Ts Hs : List T} {a b e tg nme : Expr} {pos p : Pos} {α : Type} {f : α → D} {xs ys : List α} {x : α} {n : Int} {d : D}
theorem s_asgU (he : EE X C Γ Hs e Γ1 (.im d)) (hg : GU X C Hs Γ1 tg d Γ2) (hs : swapsWithSole [tg] e pos.line X.env = pure false := by rfl) (hw : swappedStores [tg] e X.env = pure none := by rfl)
    (h1 : (assignEach [tg] X.env).map (·.2) = [assign tg X.env] := by rfl) : S1 X C Hs Γ (.Assign [tg] e pos) (.nx Γ2) :=
  (ps_asg he hg hs hw h1).wk fun σ H D ⟨⟨hs, h⟩, q⟩ => ⟨hs, h, fun v H1 h1 => ⟨hs, h1.pop, h1.topIm, fun σ' H' _ h2 => q σ' hs H' h2⟩⟩
end
section
variable {X : Cx} {C : Cn} {Γ Γ1 : Ctx} {Hs : List T} {a : Expr} {pos p : Pos} {ds : List D}
end
end RL

set_option maxHeartbeats 2000000
/-! RL30: plain: what comes to something, and of which something holds -/
namespace RL
open PySem L2
abbrev W {α : Type} (o : Option α) (P : α → Prop) : Prop := ∃ a, o = some a ∧ P a
section
variable {α β S R : Type} {P : β → Prop} {Q : α → Prop} {o : Option α} {f : α → Option β} {x y : Option β} {c : Bool} {p : Prop}
theorem W.s {b : β} (h : P b) : W (some b) P := ⟨b, rfl, h⟩
theorem W.b (h : W o Q) (k : ∀ a, Q a → W (f a) P) : W (o.bind f) P := by
  obtain ⟨a, e, q⟩ := h
  rw [e]
  exact k a q
theorem W.e {a : α} (h : o = some a) (k : W (f a) P) : W (o.bind f) P := by rw [h]; exact k
theorem W.g [Decidable p] {f : Unit → Option β} (h : p) (k : W (f ()) P) : W ((gd (decide p)).bind f) P := by rw [gdd h]; exact k
theorem W.i (h1 : c = true → W x P) (h2 : c = false → W y P) : W (if c = true then x else y) P := iex h1 h2
theorem W.ip [Decidable p] (h1 : p → W x P) (h2 : ¬ p → W y P) : W (if decide p = true then x else y) P := W.i (fun h => h1 (of_decide_eq_true h)) fun h => h2 (of_decide_eq_false h)
theorem W.m {P' : β → Prop} (h : W x P') (k : ∀ b, P' b → P b) : W x P := by
  obtain ⟨b, e, q⟩ := h
  exact ⟨b, e, k b q⟩
theorem W.eq {b : β} (h : W x fun y => y = b) : x = some b := by
  obtain ⟨a, e, rfl⟩ := h
  exact e
theorem W.of {b : β} (h : x = some b) (q : P b) : W x P := ⟨b, h, q⟩
theorem W.val {b : β} (h : W x P) (e : x = some b) : P b := by
  obtain ⟨a, e2, q⟩ := h
  rw [e] at e2
  cases e2
  exact q
/-- a loop without an exit, by what it keeps; the items told that are behind -/
theorem W.forS {f : S → α → Option S} (Inv : List α → S → Prop) {xs : List α} {s : S} (h0 : Inv [] s) (st : ∀ zs x s, (∃ r, xs = zs ++ x :: r) → Inv zs s → W (f s x) fun s' => Inv (zs ++ [x]) s') : W (RL.forS f s xs) fun s' => Inv xs s' := by
  suffices g : ∀ (ys zs : List α) (s : S), xs = zs ++ ys → Inv zs s → W (RL.forS f s ys) fun s' => Inv xs s' from g xs [] s rfl h0
  intro ys
  induction ys with
  | nil => intro zs s e i; exact ⟨s, rfl, by rw [e, List.append_nil]; exact i⟩
  | cons y ys ih =>
    intro zs s e i
    show W ((f s y).bind fun s' => RL.forS f s' ys) _
    exact W.b (st zs y s ⟨ys, e⟩ i) fun s' i' => ih (zs ++ [y]) s' (by rw [e]; simp) i'
theorem W.forS1 {f : S → α → Option S} (Inv : S → Prop) {xs : List α} {s : S} (h0 : Inv s) (st : ∀ x ∈ xs, ∀ s, Inv s → W (f s x) Inv) : W (RL.forS f s xs) Inv :=
  W.forS (fun _ => Inv) h0 fun zs x s ⟨r, e⟩ i => st x (by rw [e]; simp) s i
theorem W.forO1 {f : S → α → Option (Out S R)} (Inv : S → Prop) (Rt : R → Prop) : ∀ {xs : List α} {s : S}, Inv s → (∀ x ∈ xs, ∀ s, Inv s → W (f s x) fun o => (∃ s', (o = .nx s' ∨ o = .ct s') ∧ Inv s') ∨ (∃ s', o = .bk s' ∧ Inv s') ∨ ∃ r, o = .rt r ∧ Rt r) → W (RL.forO f s xs) fun o => (∃ s', o = .nx s' ∧ Inv s') ∨ ∃ r, o = .rt r ∧ Rt r
  | [], s, h0, _ => ⟨_, rfl, .inl ⟨s, rfl, h0⟩⟩
  | x :: xs, s, h0, st => by
    obtain ⟨o, e, q⟩ := st x (by simp) s h0
    unfold RL.forO
    rw [e]
    rcases q with ⟨s', e' | e', i⟩ | ⟨s', e', i⟩ | ⟨r, e', i⟩
    · subst e'; exact W.forO1 Inv Rt i fun y hy => st y (by simp [hy])
    · subst e'; exact W.forO1 Inv Rt i fun y hy => st y (by simp [hy])
    · subst e'; exact ⟨_, rfl, .inl ⟨s', rfl, i⟩⟩
    · subst e'; exact ⟨_, rfl, .inr ⟨r, rfl, i⟩⟩
theorem W.forO {f : S → α → Option (Out S R)} (Inv : List α → S → Prop) (Rt : R → Prop) {xs : List α} {s : S} (h0 : Inv [] s) (st : ∀ zs x s, (∃ r, xs = zs ++ x :: r) → Inv zs s → W (f s x) fun o => (∃ s', o = .nx s' ∧ Inv (zs ++ [x]) s') ∨ ∃ r, o = .rt r ∧ Rt r) : W (RL.forO f s xs) fun o => (∃ s', o = .nx s' ∧ Inv xs s') ∨ ∃ r, o = .rt r ∧ Rt r := by
  suffices g : ∀ (ys zs : List α) (s : S), xs = zs ++ ys → Inv zs s → W (RL.forO f s ys) fun o => (∃ s', o = .nx s' ∧ Inv xs s') ∨ ∃ r, o = .rt r ∧ Rt r from g xs [] s rfl h0
  intro ys
  induction ys with
  | nil => intro zs s e i; exact ⟨_, rfl, .inl ⟨s, rfl, by rw [e, List.append_nil]; exact i⟩⟩
  | cons y ys ih =>
    intro zs s e i
    obtain ⟨o, eo, q⟩ := st zs y s ⟨ys, e⟩ i
    unfold RL.forO
    rw [eo]
    rcases q with ⟨s', e', i'⟩ | ⟨r, e', i'⟩
    · subst e'; exact ih (zs ++ [y]) s' (by rw [e]; simp) i'
    · subst e'; exact ⟨_, rfl, .inr ⟨r, rfl, i'⟩⟩
theorem W.kk {T : Type} {Q1 : T → Prop} {o : Out S R} {f : S → Option T} {g : R → Option T} {I : S → Prop} {J : R → Prop} (h : (∃ s, o = .nx s ∧ I s) ∨ ∃ r, o = .rt r ∧ J r) (k1 : ∀ s, I s → W (f s) Q1) (k2 : ∀ r, J r → W (g r) Q1) : W (o.k f g) Q1 := by
  rcases h with ⟨s, rfl, i⟩ | ⟨r, rfl, j⟩
  · exact k1 s i
  · exact k2 r j
/-- a loop that is never left early -/
theorem W.forOn {f : S → α → Option (Out S R)} (Inv : S → Prop) {xs : List α} {s : S} (h0 : Inv s) (st : ∀ x ∈ xs, ∀ s, Inv s → W (f s x) fun o => ∃ s', o = .nx s' ∧ Inv s') : W (RL.forO f s xs) fun o => ∃ s', o = .nx s' ∧ Inv s' :=
  (W.forO1 Inv (fun _ => False) h0 fun x hx s i => (st x hx s i).m fun o ⟨s', e, i'⟩ => .inl ⟨s', .inl e, i'⟩).m fun o h => by
    rcases h with h | ⟨r, _, z⟩
    · exact h
    · exact z.elim
theorem W.k {T : Type} {Q1 : T → Prop} {o : Out S R} {f : S → Option T} {g : R → Option T} (h : ∃ s, o = .nx s ∧ W (f s) Q1) : W (o.k f g) Q1 := by
  obtain ⟨s, rfl, q⟩ := h
  exact q
/-- a comprehension without a test, drawing along -/
theorem W.lcM {f : S → α → Option (S × Option β)} (Inv : S → Prop) (E : α → β → Prop) {xs : List α} {s : S} (h0 : Inv s) (st : ∀ x ∈ xs, ∀ s, Inv s → W (f s x) fun p => Inv p.1 ∧ ∃ y, p.2 = some y ∧ E x y) :
    W (RL.lcM f s xs) fun q => Inv q.1 ∧ q.2.length = xs.length ∧ ∀ (i : Nat) x y, xs[i]? = some x → q.2[i]? = some y → E x y := by
  induction xs generalizing s with
  | nil => exact ⟨_, rfl, h0, rfl, fun i x y h => by simp at h⟩
  | cons x xs ih =>
    unfold RL.lcM
    refine W.b (st x (by simp) s h0) fun p ⟨i1, y, ey, e1⟩ => W.b (ih i1 fun z hz => st z (by simp [hz])) fun q ⟨i2, l2, e2⟩ => ⟨_, rfl, i2, ?_, ?_⟩
    · rw [ey]; show (y :: q.2).length = _; simp [l2]
    · rw [ey]
      intro i a b ha hb
      cases i with
      | zero => simp at ha hb; subst ha hb; exact e1
      | succ i => exact e2 i a b (by simpa using ha) (by simpa using hb)
theorem lcM_totF {f : Unit → α → Option (Unit × Option β)} {t : α → Bool} {g : α → β} {xs : List α} (h : ∀ x ∈ xs, f () x = some ((), if t x = true then some (g x) else none)) : RL.lcM f () xs = some ((), (xs.filter t).map g) := by
  induction xs with
  | nil => rfl
  | cons x xs ih =>
    unfold RL.lcM
    rw [h x (by simp)]
    show ((RL.lcM f () xs).bind _) = _
    rw [ih fun y hy => h y (by simp [hy])]
    cases q : t x with
    | true => rw [List.filter_cons_of_pos q] <;> rfl
    | false => rw [List.filter_cons_of_neg (by simp [q])] <;> rfl
theorem W.wh {c : S → Bool} {f : S → Option S} (Inv : S → Prop) (μ : S → Nat) {n : Nat} {s : S} (h0 : Inv s) (hm : μ s < n) (st : ∀ s, Inv s → c s = true → W (f s) fun s' => Inv s' ∧ μ s' < μ s) : W (RL.whS c f n s) fun s' => Inv s' ∧ c s' = false := whS_ex Inv μ st h0 hm
end
/-! ### numbers, places -/
theorem big {n : Nat} (h : n ≤ 1000000) : n ≤ sizeLine := Nat.le_trans h (by decide)
theorem bigl {n : Nat} (h : n ≤ 1000000) : n < sizeLine := Nat.lt_of_le_of_lt h (by decide)
section
variable {α β : Type} {xs ys : List α} {x y : α} {i : Int} {k : Nat}
theorem atI_some (h0 : 0 ≤ i) (h : xs[i.toNat]? = some x) : atI xs i = some x := by
  have e : ((i.toNat : Nat) : Int) = i := by omega
  rw [← e]
  exact RL.atI_nat h
theorem atI_get (h0 : 0 ≤ i) (h : i < xs.length) : atI xs i = some (xs[i.toNat]'(by omega)) := atI_some h0 (List.getElem?_eq_getElem (by omega))
theorem atI_W (h0 : 0 ≤ i) (h : i < xs.length) : W (atI xs i) fun x => x ∈ xs ∧ xs[i.toNat]? = some x := ⟨_, atI_get h0 h, List.getElem_mem _, List.getElem?_eq_getElem _⟩
theorem ixN_pos {n : Nat} (h0 : 0 ≤ i) (h : i < n) : ixN n i = some i.toNat := by
  unfold ixN
  rw [if_pos h0, if_pos h]
theorem popI_W (h0 : 0 ≤ i) (h : i < xs.length) : W (popI xs i) fun q => q.1 ∈ xs ∧ q.2 = xs.eraseIdx i.toNat ∧ xs[i.toNat]? = some q.1 := by
  have hl : i.toNat < xs.length := by omega
  unfold popI
  rw [ixN_pos h0 h]
  show W ((xs[i.toNat]?).map _) _
  rw [List.getElem?_eq_getElem hl]
  exact ⟨_, rfl, List.getElem_mem _, rfl, rfl⟩
theorem get_some (d : α) {k : Nat} (h : k < xs.length) : xs[k]? = some (xs.getD k d) := by simp [List.getD, h]
theorem W.lcP {o : α → Option Bool} {g : α → β} (h : ∀ x ∈ xs, ∃ t, o x = some t) : RL.lcM (fun (_ : Unit) x => (o x).bind fun tq => if tq = true then some ((), some (g x)) else some ((), none)) () xs = some ((), (xs.filter fun x => (o x).getD false).map g) := by
  refine lcM_totF fun x hx => ?_
  obtain ⟨t, ht⟩ := h x hx
  rw [ht]
  cases t <;> rfl
end
end RL

set_option maxHeartbeats 4000000
/-! RL31: stars within displays, tuples repeated, dicts of texts -/
namespace RL
open PySem L2 PySem.Spec PyProof.Rows
section
variable {X : Cx} {C : Cn} {Γ Γ1 Γ2 Γ3 Γ' : Ctx} {Ts Hs : List T} {t t1 t2 t3 : T} {ts : List T} {e a b c tg iter nm : Expr} {es rest : List Expr} {pos p p2 apos cpos : Pos} {nme : Expr} {i j : Nat} {d d1 d2 d3 : D} {ds ds' : List D} {m : M} {b1 b2 k : Bool} {α β : Type} {enc : α → D} {f : α → D} {xs ys : List α} {x y : α} {n n' : Int}
theorem As.pushAll {C : Cn} {Γ : Ctx} {σ : L2.St} {H : Hp} : ∀ {ds : List D} {us vs : List V} {Ts : List T}, rDs C.K ds us H → As C Γ Ts σ vs H → As C Γ (Ts ++ ds.map T.im) σ (vs ++ us) H
  | [], us, vs, Ts, r, h => by
    unfold rDs at r
    subst r
    simpa using h
  | d :: ds, us, vs, Ts, r, h => by
    unfold rDs at r
    obtain ⟨w, ws, rfl, r1, r2⟩ := r
    have := As.pushAll r2 (h.pushIm Ext.refl r1)
    simpa using this
/-! ### dicts of texts -/
end
end RL

set_option maxHeartbeats 4000000
/-! RL32: comparisons told as values -/
namespace RL
open PySem L2
section
variable {X : Cx} {C : Cn} {Γ Γ1 Γ2 Γ3 Γ' : Ctx} {Ts Hs : List T} {t t1 t2 t3 : T} {a b e : Expr} {pos : Pos} {d d1 d2 : D} {ds : List D} {k : Bool} {α : Type} {enc : α → D} {xs : List α} {n n' : Int}
end
end RL

set_option maxHeartbeats 4000000
/-! RL33: blocks one behind another -/
namespace RL
open PySem L2
/-- the blocks one behind another end in o -/
def SL (X : Cx) (C : Cn) (Hs : List T) : Ctx → List Stmt → List (List Stmt) → O → Prop
  | Γ, sts, [], o => SS X C Hs Γ sts o
  | Γ, sts, k :: K, o => (∃ Γ1, SS X C Hs Γ sts (.nx Γ1) ∧ SL X C Hs Γ1 k K o) ∨ (o.isNx = false ∧ SS X C Hs Γ sts o)
section
variable {X : Cx} {C : Cn} {Γ Γ1 Γ2 Γ' : Ctx} {Hs : List T} {c : Expr} {pos : Pos} {st : Stmt} {sts body els k0 : List Stmt} {K : List (List Stmt)} {o : O} {k : Bool}
theorem sl_in (h : SL X C Hs Γ sts [] o) : SS X C Hs Γ sts o := h
theorem sl_end (w : wkL Γ' Γ) : SL X C Hs Γ [] [] (.nx Γ') := ss_nil w
theorem sl_pop (h : SL X C Hs Γ k0 K o) : SL X C Hs Γ [] (k0 :: K) o := .inl ⟨Γ, ss_nil (wkL_refl Γ), h⟩
  where wkL_refl : ∀ Γ, wkL Γ Γ
    | [] => trivial
    | none :: Γ => wkL_refl Γ
    | some m :: Γ => ⟨rfl, wkL_refl Γ⟩
theorem sl_cons (h1 : S1 X C Hs Γ st (.nx Γ1)) (h2 : SL X C Hs Γ1 sts K o) : SL X C Hs Γ (st :: sts) K o := by
  cases K with
  | nil => exact ss_cons h1 h2
  | cons k K =>
    rcases h2 with ⟨Γ2, a, b⟩ | ⟨a, b⟩
    · exact .inl ⟨Γ2, ss_cons h1 a, b⟩
    · exact .inr ⟨a, ss_cons h1 b⟩
theorem sl_exit (h1 : S1 X C Hs Γ st o) (ho : o.isNx = false := by rfl) : SL X C Hs Γ (st :: sts) K o := by
  cases K with
  | nil => exact ss_exit h1 ho
  | cons k K => exact .inr ⟨ho, ss_exit h1 ho⟩
theorem sl_ift (hc : ET X C Γ Hs c Γ1 k) (hk : k = true) (h : SL X C Hs Γ1 body (sts :: K) o) : SL X C Hs Γ (.If c body els pos :: sts) K o := by
  have n : k = false → False := fun z => by rw [hk] at z; cases z
  rcases h with ⟨Γ2, a, b⟩ | ⟨a, b⟩
  · exact sl_cons (s_if hc (fun _ => a) fun z => (n z).elim) b
  · exact sl_exit (s_if hc (fun _ => b) fun z => (n z).elim) a
theorem sl_iff (hc : ET X C Γ Hs c Γ1 k) (hk : k = false) (h : SL X C Hs Γ1 els (sts :: K) o) : SL X C Hs Γ (.If c body els pos :: sts) K o := by
  have n : k = true → False := fun z => by rw [hk] at z; cases z
  rcases h with ⟨Γ2, a, b⟩ | ⟨a, b⟩
  · exact sl_cons (s_if hc (fun z => (n z).elim) fun _ => a) b
  · exact sl_exit (s_if hc (fun z => (n z).elim) fun _ => b) a
theorem sl_ctx (h : Γ = Γ1) (hs : SL X C Hs Γ1 sts K o) : SL X C Hs Γ sts K o := h ▸ hs
/-- a rule about the state ahead of a block -/
theorem sl_map (f : ∀ o', SS X C Hs Γ1 sts o' → SS X C Hs Γ sts o') (h : SL X C Hs Γ1 sts K o) : SL X C Hs Γ sts K o := by
  cases K with
  | nil => exact f _ h
  | cons k K =>
    rcases h with ⟨Γ2, a, b⟩ | ⟨a, b⟩
    · exact .inl ⟨Γ2, f _ a, b⟩
    · exact .inr ⟨a, f _ b⟩
end
end RL

set_option maxHeartbeats 4000000
/-! RL34: exceptions -/
namespace RL
open PySem L2 PySem.Spec PyProof.Rows
/-- an exception: its class, its field -/
structure Exn where
  cls : Str
  fld : Option (Str × D)
def ExnIs (K : PySem.W.Frag) (mg : Str → Option Value) (x : Exn) (cls : Value) (d : Option Addr) (H : Hp) : Prop :=
  ∃ a, mg x.cls = some (.ref a) ∧ cls = .ref a ∧ match x.fld with
    | none => d = none
    | some (f, dv) => ∃ dd v, d = some dd ∧ H dd = some (.xd [(f, v)]) ∧ rD K dv v H
/-- how a block ends, raising too -/
inductive OX where
  | en (a : O) | ex (Γ : Ctx) (e : Exn)
def OX.isNx : OX → Bool
  | .en a => a.isNx
  | .ex _ _ => false
/-- it raises e; the state behind it is told by Γ' -/
def xrd (mg : Str → Option Value) (C : Cn) (Hs : List T) (Γ Γ' : Ctx) (W : WX) (e : Exn) (σ : L2.St) (H : Hp) : Prop :=
  (∃ hs, As C Γ Hs σ hs H) ∧ ∀ σ' cls d hs H', As C Γ' Hs σ' hs H' → ExnIs C.K mg e cls d H' → W cls d σ' H'
def SG (X : Cx) (mg : Str → Option Value) (C : Cn) (W : WX) (Hs : List T) (Γ : Ctx) (sts : List Stmt) : OX → Prop
  | .en o => SS X C Hs Γ sts o
  | .ex Γ' e => PSs X sts fun _ σ H => xrd mg C Hs Γ Γ' W e σ H
def S1G (X : Cx) (mg : Str → Option Value) (C : Cn) (W : WX) (Hs : List T) (Γ : Ctx) (st : Stmt) : OX → Prop
  | .en o => S1 X C Hs Γ st o
  | .ex Γ' e => PS X st fun _ σ H => xrd mg C Hs Γ Γ' W e σ H
section
variable {X : Cx} {mg : Str → Option Value} {C : Cn} {W : WX} {Hs : List T} {Γ Γ1 Γ2 Γ' : Ctx} {c : Expr} {pos : Pos} {st : Stmt} {sts body els k0 : List Stmt} {K : List (List Stmt)} {o : OX} {k : Bool} {e : Exn}
theorem _root_.L2.PS.nox (h : PS X.nox st t) : PS X st t := ⟨fun pins s σ H D I hw =>
  wpAny_mono (h.run pins s σ H D (I.wish _) hw) (fun _ _ q => q.unwish) fun _ _ z => False.elim z⟩
theorem s_nox {o : O} (h : S1 X.nox C Hs Γ st o) : S1 X C Hs Γ st o := PS.nox h
theorem sg_cons (h1 : S1 X C Hs Γ st (.nx Γ1)) (h2 : SG X mg C W Hs Γ1 sts o) : SG X mg C W Hs Γ (st :: sts) o := by
  cases o with
  | en o => exact ss_cons h1 h2
  | ex Γ' e => exact (pss_cons h1 h2).wk fun σ H D ⟨h, q⟩ => ⟨h, fun σ' hs H' h' => ⟨⟨hs, h'⟩, q⟩⟩
theorem sg_exit (h1 : S1G X mg C W Hs Γ st o) (ho : o.isNx = false) : SG X mg C W Hs Γ (st :: sts) o := by
  cases o with
  | en o => exact ss_exit h1 ho
  | ex Γ' e => exact (pss_cons h1 pss_never).wk fun σ H D q => q
theorem sg_if_t (hc : ET X C Γ Hs c Γ1 k) (hk : k = true) (h : SG X mg C W Hs Γ1 body o) : S1G X mg C W Hs Γ (.If c body els pos) o := by
  subst hk
  cases o with
  | en o => exact s_if hc (fun _ => h) fun z => by cases z
  | ex Γ' e => exact (ps_if hc h pss_never).wk fun σ H D ⟨⟨hs, h⟩, q⟩ => ⟨hs, h, fun H1 h1 => ⟨⟨hs, h1⟩, q⟩⟩
theorem sg_if_f (hc : ET X C Γ Hs c Γ1 k) (hk : k = false) (h : SG X mg C W Hs Γ1 els o) : S1G X mg C W Hs Γ (.If c body els pos) o := by
  subst hk
  cases o with
  | en o => exact s_if hc (fun z => by cases z) fun _ => h
  | ex Γ' e => exact (ps_if hc pss_never h).wk fun σ H D ⟨⟨hs, h⟩, q⟩ => ⟨hs, h, fun H1 h1 => by
      show (if false = true then _ else _)
      rw [if_neg Bool.false_ne_true]
      exact ⟨⟨hs, h1⟩, q⟩⟩
/-- blocks one behind another, raising too -/
def XL (X : Cx) (mg : Str → Option Value) (C : Cn) (W : WX) (Hs : List T) : Ctx → List Stmt → List (List Stmt) → OX → Prop
  | Γ, sts, [], o => SG X mg C W Hs Γ sts o
  | Γ, sts, k :: K, o => (∃ Γ1, SS X C Hs Γ sts (.nx Γ1) ∧ XL X mg C W Hs Γ1 k K o) ∨ (o.isNx = false ∧ SG X mg C W Hs Γ sts o)
theorem xl_in (h : XL X mg C W Hs Γ sts [] o) : SG X mg C W Hs Γ sts o := h
theorem xl_pop (h : XL X mg C W Hs Γ k0 K o) : XL X mg C W Hs Γ [] (k0 :: K) o := .inl ⟨Γ, ss_nil (sl_pop.wkL_refl Γ), h⟩
theorem xl_consF (h1 : S1 X C Hs Γ st (.nx Γ1)) (h2 : XL X mg C W Hs Γ1 sts K o) : XL X mg C W Hs Γ (st :: sts) K o := by
  cases K with
  | nil => exact sg_cons h1 h2
  | cons k K =>
    rcases h2 with ⟨Γ2, a, b⟩ | ⟨a, b⟩
    · exact .inl ⟨Γ2, ss_cons h1 a, b⟩
    · exact .inr ⟨a, sg_cons h1 b⟩
theorem xl_cons (h1 : S1 X.nox C Hs Γ st (.nx Γ1)) (h2 : XL X mg C W Hs Γ1 sts K o) : XL X mg C W Hs Γ (st :: sts) K o := xl_consF (s_nox h1) h2
theorem xl_exitF (h1 : S1G X mg C W Hs Γ st o) (ho : o.isNx = false := by rfl) : XL X mg C W Hs Γ (st :: sts) K o := by
  cases K with
  | nil => exact sg_exit h1 ho
  | cons k K => exact .inr ⟨ho, sg_exit h1 ho⟩
theorem xl_exit {o : O} (h1 : S1 X.nox C Hs Γ st o) (ho : o.isNx = false := by rfl) : XL X mg C W Hs Γ (st :: sts) K (.en o) := xl_exitF (o := .en o) (s_nox h1) ho
theorem xl_raise (h1 : PS X st fun _ σ H => xrd mg C Hs Γ Γ' W e σ H) : XL X mg C W Hs Γ (st :: sts) K (.ex Γ' e) := xl_exitF (o := .ex Γ' e) h1 rfl
theorem xl_ift (hc : ET X.nox C Γ Hs c Γ1 k) (hk : k = true) (h : XL X mg C W Hs Γ1 body (sts :: K) o) : XL X mg C W Hs Γ (.If c body els pos :: sts) K o := by
  have hc' : ET X C Γ Hs c Γ1 k := PT.nox hc
  rcases h with ⟨Γ2, a, b⟩ | ⟨a, b⟩
  · exact xl_consF (s_if hc' (fun _ => a) fun z => absurd (hk.symm.trans z) (by decide)) b
  · exact xl_exitF (sg_if_t hc' hk b) a
theorem xl_iff (hc : ET X.nox C Γ Hs c Γ1 k) (hk : k = false) (h : XL X mg C W Hs Γ1 els (sts :: K) o) : XL X mg C W Hs Γ (.If c body els pos :: sts) K o := by
  have hc' : ET X C Γ Hs c Γ1 k := PT.nox hc
  rcases h with ⟨Γ2, a, b⟩ | ⟨a, b⟩
  · exact xl_consF (s_if hc' (fun z => absurd (hk.symm.trans z) (by decide)) fun _ => a) b
  · exact xl_exitF (sg_if_f hc' hk b) a
end
/-! ### defs that may raise -/
structure FnX (P : Program) (w : World) (K : PySem.W.Frag) (mg : Str → Option Value) (base : Heap) (k : Nat) (f : Addr) (fd : FuncData) (ps : List Str) (sp : Sp) : Prop where
  len : ∀ vs H Q E, sp vs H Q E → vs.length = ps.length
  go : ∀ (A : Around) (outer : List Env) (s : Shared) (H : Hp) (args : Args) (us : List Value) (vs : List V) (Q : VK) (E : XK), Room k A → A.guards = some [] → Env0 P w K mg base A outer s H → BindsTo s fd args (ps.zip us) → Vals vs us →
    sp vs H Q E → codeAny (model P w) A (.call (.ref f) args) (CR (L2.CX P w) outer P w H s Q E) s
section
variable {P : Program} {w : World} {K : PySem.W.Frag} {mg : Str → Option Value} {base : Heap} {j k : Nat} {f : Addr} {fd : FuncData} {ps : List Str} {sp sp' : Sp}
theorem FnX.mono (F : FnX P w K mg base j f fd ps sp) (h : j ≤ k) : FnX P w K mg base k f fd ps sp :=
  ⟨F.len, fun A outer s H args us vs Q E hr => F.go A outer s H args us vs Q E (hr.mono h)⟩
/-- where it raises nothing -/
theorem FnX.calm (F : FnX P w K mg base k f fd ps sp) (h : ∀ vs H Q E, sp' vs H Q E → sp vs H Q E0) : FnG P w K mg base k f fd ps sp' :=
  ⟨fun vs H Q E q => F.len vs H Q E0 (h _ _ _ _ q), fun A outer s H args us vs Q E hr hg he hb hv hs => codeAny_mono (F.go A outer s H args us vs Q E0 hr hg he hb hv (h _ _ _ _ hs)) fun r s' q => by
    match r, q with
    | .ok (.ret u), q => exact q
    | .ok .next, q => exact q.elim
    | .ok .brk, q => exact q.elim
    | .ok .cont, q => exact q.elim
    | .error e, q =>
      obtain ⟨_, _, _, _, _, _, _, _, _, _, _, _, z⟩ := q
      exact z.elim⟩
theorem FnX.of {x qual : Str} {params : Arguments} {body : List Stmt} {sc : Scope} {dV kV doc pm cdv ct oc : Value} {an od : Option Addr} {osl : Array (Option Value)} {N : List Str}
    (lk : K.lookup f = some ⟨oc, od, .func (PySem.W.fnOf x qual params body sc dV kV doc pm an cdv ct), osl⟩) (hcd : PySem.W.codeIn K cdv qual = true) (S : FnScope N ps sc) (len : ∀ vs H Q E, sp vs H Q E → vs.length = ps.length)
    (hbody : ∀ (A : Around) (outer : List Env) (s : Shared) (H : Hp) (vs : List V) (Q : VK) (E : XK), Room k (A.deeper (PyProof.Rows.envOfC qual sc s.heap.objs.size f cdv)) → A.guards = some [] → sp vs H Q E →
      ∃ t, PSs (cxOf (L2.CX P w) P w K mg base N qual sc f cdv A outer s H E) body t ∧ t { nx := fun _ H' => Q .non H', rt := Q } (start N vs) H) :
    FnX P w K mg base (k + 1) f (PySem.W.fnOf x qual params body sc dV kV doc pm an cdv ct) ps sp := by
  constructor
  · exact len
  intro A outer s H args us vs Q E hr hg e0 hb rel hsp
  have hlen := len _ _ _ _ hsp
  have kin : K.In s.heap := e0.mod.kin.keeps (fun b o z => (e0.bs b o z).1)
  have nol : s.heap.NoLimit := e0.mod.nolimit.keeps (fun b o z => (e0.bs b o z).1)
  have kinds : ∀ y ∈ ps.zip us, sc.names.lookup y.1 = some .local ∨ (sc.names.lookup y.1 = some .cell ∧ ((cellsFrom (s.heap.objs.size + 1) sc.names []).lookup y.1).isSome = true) := by
    rintro ⟨n, v⟩ hy
    exact (S.par n (List.of_mem_zip hy).1).elim .inl fun z => .inr ⟨z, PySem.W.cellsFrom_some _ _ _ (.inl z)⟩
  refine codeAny_call_function hr.depth (kin _ _ lk) rfl S.co S.gen rfl (PySem.W.codeRec_of kin hcd) (hb _ _ _ _ ?_)
  refine wpAny_newFunctionEnv_cells S.kind kinds fun env he s1 made => ?_
  subst he
  refine ⟨nol.keeps made.toInCall.keep, codeAny_func ?_⟩
  obtain ⟨t, ht, hq⟩ := hbody A outer s H vs Q E (hr.deeper _) hg hsp
  have inv : Inv (cxOf (L2.CX P w) P w K mg base N qual sc f cdv A outer s H E) [] (start N vs) H s1 := inv_start S hr.hd e0 hlen rel made
  refine wpAny_mono (ht.run [] s1 (start N vs) H _ inv hq) (fun fl s' hs => ?_) (fun e s' hs => hs)
  cases fl with
  | next =>
    obtain ⟨σ', H', J, q⟩ := hs
    exact ⟨V.non, H', J.os, J.bare, J.base, J.hok, rfl, q⟩
  | ret u =>
    obtain ⟨v, σ', H', J, rv, q⟩ := hs
    exact ⟨v, H', J.os, J.bare, J.base, J.hok, rv, q⟩
  | brk =>
    obtain ⟨_, _, _, q⟩ := hs
    cases q
  | cont =>
    obtain ⟨_, _, _, q⟩ := hs
    cases q
end
/-- called with ms it hands back r, or raises; its arguments are data -/
def spX (K : PySem.W.Frag) (mg : Str → Option Value) (n : Nat) (rel : List M → Except Exn M → Prop) : Sp := fun vs H Q E => ∃ ms F, vs.length = n ∧ rMs K ms vs H F ∧
  ((∃ r, rel ms (.ok r) ∧ ∀ v H' F', rMs K [r] [v] H' F' → (∀ a, F' a → F a ∨ H a = none) → Frm H F H' → Q v H') ∨ ∃ x, rel ms (.error x) ∧ ∀ cls d H', ExnIs K mg x cls d H' → Frm H F H' → E cls d H')
theorem spX_len {K : PySem.W.Frag} {mg : Str → Option Value} {n : Nat} {rel : List M → Except Exn M → Prop} {ps : List Str} (h : n = ps.length) : ∀ vs H Q E, spX K mg n rel vs H Q E → vs.length = ps.length := fun vs H Q E ⟨_, _, e, _⟩ => e.trans h
/-- where it hands back -/
theorem spX_calm {K : PySem.W.Frag} {mg : Str → Option Value} {n : Nat} {rel : List M → Except Exn M → Prop} {rel' : List M → M → List M → Prop} (h : ∀ ms r ms', rel' ms r ms' → rel ms (.ok r) ∧ ms' = []) : ∀ vs H Q E, spR K n [] rel' vs H Q E → spX K mg n rel vs H Q E0 :=
  fun vs H Q E ⟨ms, F, r, ms', hl, hm, hr, _, q⟩ => by
    obtain ⟨h1, rfl⟩ := h _ _ _ hr
    exact ⟨ms, F, hl, hm, .inl ⟨r, h1, fun v H' F' => q v H' F'⟩⟩
section
variable {X : Cx} {C : Cn} {W : WX} {Γ Γ1 Γ2 : Ctx} {Ts ts : List T} {k n : Nat} {f : Addr} {fd : FuncData} {ps ks : List Str} {sp : Sp} {x : Str} {p pos : Pos} {e : Expr} {es : List Expr} {kws : List Keyword} {ta tk : TA} {gV : List V → List V → List V} {g : List Value → List Value → List Value}
theorem runX {pins : List (Addr × Obj)} {σ : L2.St} {H : Hp} {s : Shared} {Q : VK} {us ws : List Value} {kw : List (Str × Value)} {vs : List V} (tk : Takes X W) (F : FnX X.prog X.w X.K X.mg X.base k f fd ps sp) (hr : Room k X.A) (hg : X.A.guards = some [])
    (I : Inv X pins σ H s) (hb : us.length = ps.length → BindsTo s fd ⟨ws, kw⟩ (ps.zip us)) (r : Vals vs us) (h : sp vs H Q (WE W σ)) : wpAny (model X.prog X.w) X.A (call (.ref f) ws kw) (L2.EP X pins σ Q) X.xe s := by
  have hl : us.length = ps.length := r.length.symm.trans (F.len _ _ _ _ h)
  refine wpAny_call (codeAny_mono (F.go X.A X.stack s H ⟨ws, kw⟩ us vs Q (WE W σ) hr hg I.env0 (hb hl) r h) (fun r s' hq => ?_))
  match r, hq with
  | .ok (.ret u), hq => exact I.after hq
  | .ok .next, hq => exact hq.elim
  | .ok .brk, hq => exact hq.elim
  | .ok .cont, hq => exact hq.elim
  | .error e, hq => exact passAt tk σ pins H s e s' I hq
theorem pe_callF (tk : Takes X W) (F : FnX X.prog X.w X.K X.mg X.base k f fd ps sp) (hr : Room k X.A) (hG : X.A.guards = some []) (hg : Gl X x) (hm : X.mg x = some (.ref f)) (hk : PySem.W.keepIn X.K (.ref f) = true) (hb : Binds X.K fd ps [])
    (ha : PA X (e :: es) ta) (hdb : (x == ("__debug__" : Str)) = false := by decide) (he : starEach (e :: es) X.env = (false, eval e X.env) :: starEach es X.env := by rfl) (hpl : (backTo pos (starEach es X.env)).any (·.1) = false := by rfl) :
    PE X (.Call (.Name x p) (e :: es) [] pos) (fun σ H Q => ta σ H fun vs H1 => sp vs H1 Q (WE W σ)) := by
  constructor
  intro pins s σ H Q I h
  refine wpAny_Call_Name_kw (ld_glob I hg hm ?_ hdb)
  refine PySem.W.callWith_K (h₀ := X.base) I.ok.mod.kin hk (thn (ha.run pos pins s σ H _ I h) fun us s1 ⟨vs, H1, I1, r, q⟩ => ⟨I1.kIn, ?_⟩) he hpl
  exact runX tk F hr hG I1 (us := us) (fun hl => by simpa using hb s1 us I1.kIn (by simpa using hl)) r q
theorem pe_callF0 (tk : Takes X W) (F : FnX X.prog X.w X.K X.mg X.base k f fd ps sp) (hr : Room k X.A) (hG : X.A.guards = some []) (hg : Gl X x) (hm : X.mg x = some (.ref f)) (hk : PySem.W.keepIn X.K (.ref f) = true) (hb : KBinds X.K fd ps ks g gV)
    (hkw : PK X kws ta) (hall : (backToKw pos (keywordEach kws X.env)).all (·.1.isSome) = true := by rfl) (hks : (backToKw pos (keywordEach kws X.env)).filterMap (·.1) = ks := by rfl)
    (hdb : (x == ("__debug__" : Str)) = false := by decide) (hpl : ((backTo pos (starEach [] X.env)).any (·.1) || (backToKw pos (keywordEach kws X.env)).any (·.1.isNone)) = false := by rfl) :
    PE X (.Call (.Name x p) [] kws pos) (fun σ H Q => ta σ H fun zs H2 => sp (gV [] zs) H2 Q (WE W σ)) := by
  constructor
  intro pins s σ H Q I h
  refine wpAny_Call_Name_kw (ld_glob I hg hm ?_ hdb)
  refine PySem.W.callWith_KW0 (h₀ := X.base) I.ok.mod.kin hk hall (thn (hkw.run pos pins s σ H _ I h) fun ws s2 ⟨zs, H2, I2, rz, q2⟩ => ⟨I2.kIn, ?_⟩) hpl
  rw [hks]
  exact runX tk F hr hG I2 (us := g [] ws) (fun hl => hb.to s2 [] ws I2.kIn hl) (hb.rel .nil rz) q2
end
end RL

set_option maxHeartbeats 4000000
/-! RL35: raising, passing on, catching -/
namespace RL
open PySem L2 PySem.Spec PyProof.Rows
theorem pa_never {X : Cx} {es : List Expr} : PA X es (fun _ _ _ => False) := ⟨fun _ _ _ _ _ _ _ h => h.elim⟩
/-- an expression raises x -/
def xrE (mg : Str → Option Value) (C : Cn) (Γ : Ctx) (Ts : List T) (Γ' : Ctx) (W : WX) (x : Exn) (σ : L2.St) (H : Hp) : Prop :=
  ∃ vs, As C Γ Ts σ vs H ∧ ∀ cls d H', As C Γ' Ts σ vs H' → ExnIs C.K mg x cls d H' → W cls d σ H'
abbrev EX (X : Cx) (mg : Str → Option Value) (C : Cn) (W : WX) (Γ : Ctx) (Ts : List T) (e : Expr) (Γ' : Ctx) (x : Exn) : Prop := PE X e fun σ H _ => xrE mg C Γ Ts Γ' W x σ H
abbrev AX (X : Cx) (mg : Str → Option Value) (C : Cn) (W : WX) (Γ : Ctx) (Ts : List T) (es : List Expr) (Γ' : Ctx) (x : Exn) : Prop := PA X es fun σ H _ => xrE mg C Γ Ts Γ' W x σ H
section
variable {X : Cx} {mg : Str → Option Value} {C : Cn} {W : WX} {Hs : List T} {Γ Γ1 Γ2 Γ' : Ctx} {Ts ts : List T} {t : T} {c a b e tg : Expr} {es : List Expr} {kws : List Keyword} {pos p nm : Pos} {st : Stmt} {sts body els : List Stmt} {x : Exn} {k : Bool} {m n : Nat} {f : Addr} {fd : FuncData} {ps ks : List Str} {y : Str} {rel : List M → Except Exn M → Prop} {ms : List M} {ds ds2 : List D}
theorem spX_err {σ : L2.St} {vs us : List V} {H : Hp} {Q : VK} (hK : X.K = C.K) (hl : us.length = ts.length) (hn : ts.length = n) (hm : ts.map T.mo = ms.map some) (hrel : rel ms (.error x)) (h : As C Γ (Ts ++ ts) σ (vs ++ us) H)
    (q : ∀ cls d H', As C Γ Ts σ vs H' → ExnIs C.K mg x cls d H' → W cls d σ H') : spX X.K mg n rel us H Q (WE W σ) := by
  obtain ⟨fp, G, B, tk⟩ := As.blob hm hl h
  rw [hK]
  refine ⟨ms, G, hl.trans hn, B.r, .inr ⟨x, hrel, fun cls d H' ex hf => q cls d H' ?_ ex⟩⟩
  exact (B.chg (ms' := []) (us' := []) (G' := e0) hf (by unfold rMs; exact ⟨rfl, fun _ z => z⟩) fun a z => z.elim).as
theorem ex_call (tk : Takes X W) (F : FnX X.prog X.w X.K X.mg X.base m f fd ps (spX X.K X.mg n rel)) (hr : Room m X.A) (hG : X.A.guards = some []) (hm : X.mg y = some (.ref f)) (hk : PySem.W.keepIn X.K (.ref f) = true) (hb : Binds X.K fd ps [])
    (ha : EA X C Γ Ts (e :: es) Γ1 ts) (hrel : rel ms (.error x)) (hg : Gl X y := by rfl) (hK : X.K = C.K := by rfl) (hn : ts.length = n := by rfl) (hms : ts.map T.mo = ms.map some := by rfl) (hdb : (y == ("__debug__" : Str)) = false := by decide)
    (he : starEach (e :: es) X.env = (false, eval e X.env) :: starEach es X.env := by rfl) (hpl : (backTo pos (starEach es X.env)).any (·.1) = false := by rfl) :
    EX X X.mg C W Γ Ts (.Call (.Name y p) (e :: es) [] pos) Γ1 x :=
  (pe_callF tk F hr hG hg hm hk hb ha hdb he hpl).wk fun σ H Q ⟨vs, h, q⟩ => ⟨vs, h, fun us H1 l h1 => spX_err hK l hn hms hrel h1 q⟩
theorem ex_callK0 {gV : List V → List V → List V} {g : List Value → List Value → List Value} (tk : Takes X W) (F : FnX X.prog X.w X.K X.mg X.base m f fd ps (spX X.K X.mg n rel)) (hr : Room m X.A) (hG : X.A.guards = some []) (hm : X.mg y = some (.ref f)) (hk : PySem.W.keepIn X.K (.ref f) = true) (hb : KBinds X.K fd ps ks g gV)
    (h : EKw X C Γ Ts kws Γ1 (ds2.map T.im)) (hg2 : ∀ zs H, rDs C.K ds2 zs H → rDs C.K ds (gV [] zs) H) (hn : ds.length = n) (hrel : rel (ds.map M.im) (.error x)) (hg : Gl X y := by rfl) (hK : X.K = C.K := by rfl) (hall : (backToKw pos (keywordEach kws X.env)).all (·.1.isSome) = true := by rfl) (hks : (backToKw pos (keywordEach kws X.env)).filterMap (·.1) = ks := by rfl)
    (hdb : (y == ("__debug__" : Str)) = false := by decide) (hpl : ((backTo pos (starEach [] X.env)).any (·.1) || (backToKw pos (keywordEach kws X.env)).any (·.1.isNone)) = false := by rfl) :
    EX X X.mg C W Γ Ts (.Call (.Name y p) [] kws pos) Γ1 x :=
  (pe_callF0 tk F hr hG hg hm hk hb h hall hks hdb hpl).wk fun σ H Q ⟨vs, h, q⟩ => ⟨vs, h, fun zs H1 hl h1 => by
    obtain ⟨rd, h2⟩ := As.ims (by simpa using hl) h1
    have rd2 := hg2 zs H1 rd
    have h3 := As.pushAll (ds := ds) rd2 h2
    exact spX_err (ts := ds.map T.im) hK (by rw [List.length_map, rd2.len]) (by rw [List.length_map]; exact hn) (by simp [List.map_map]; intro d hd; rfl) hrel h3 q⟩
/-! #### passing on -/
theorem ax_head (h : EX X mg C W Γ Ts e Γ' x) (hs : starEach (e :: es) X.env = (false, eval e X.env) :: starEach es X.env := by rfl) : AX X mg C W Γ Ts (e :: es) Γ' x := (pa_cons h pa_never hs).wk fun σ H Q q => q
theorem ax_tail (h1 : EE X C Γ Ts e Γ1 t) (h2 : AX X mg C W Γ1 (Ts ++ [t]) es Γ' x) (hs : starEach (e :: es) X.env = (false, eval e X.env) :: starEach es X.env := by rfl) : AX X mg C W Γ Ts (e :: es) Γ' x := (pa_cons h1 h2 hs).wk fun σ H Q ⟨vs, h, q⟩ =>
  ⟨vs, h, fun v H1 h1 => ⟨vs ++ [v], h1, fun cls d H' h' ex => q cls d H' h'.pop ex⟩⟩
theorem ex_lst (h : AX X mg C W Γ Ts es Γ' x) : EX X mg C W Γ Ts (.List es pos) Γ' x := (pe_lst h).wk fun σ H Q q => q
/-! #### statements -/
theorem xs_of {σ : L2.St} {H : Hp} (h : xrd mg C Hs Γ Γ' W x σ H) : xrE mg C Γ Hs Γ' W x σ H := by
  obtain ⟨⟨hs, h⟩, q⟩ := h
  exact ⟨hs, h, fun cls d H' h' ex => q σ cls d hs H' h' ex⟩
theorem xs_ret (h : EX X mg C W Γ Hs e Γ' x) : PS X (.Return (some e) pos) fun _ σ H => xrd mg C Hs Γ Γ' W x σ H := (ps_ret h).wk fun σ H D q => xs_of q
/-- raise y() -/
theorem pmk_own0 {bmB : List Value} {B newId initId : String} {a : Addr} (F : ExcBaseFacts B newId initId bmB) (q : PySem.W.excIn X.K a bmB newId = true) (gC : X.mg y = some (.ref a)) (kC : PySem.W.keepIn X.K (.ref a) = true) (r : Raises X (.ref a)) (hg : Gl X y)
    (hdb : (y == ("__debug__" : Str)) = false := by decide) : PMk X (.Call (.Name y p) [] [] pos) (fun _ H Q => Q (.ref a) none H) := by
  intro pins s σ H Q I h
  refine wpAny_Call_Name_kw (ld_glob I hg gC ?_ hdb)
  refine PySem.W.callWith_K0 I.kIn kC ?_
  obtain ⟨bm, N, nm, qn, bs, hdct, sn, sub, ab, col, dd, k0, k1, k2, k3, k5, mN, hC, hN, hni, T⟩ := exc_obj I.kIn q
  obtain ⟨hp1, g1, d1, tk1, os1⟩ := s
  exact wpAny_call_exc_subT F T hC hN hni (fun h' e hm => mk_of I hm r h (I.hok.gone hm.new)) (Nat.zero_le _)
theorem xs_raise0 {bmB : List Value} {B newId initId : String} {a : Addr} (hc : X.calm = true) (tk : Takes X W) (F : ExcBaseFacts B newId initId bmB) (q : PySem.W.excIn X.K a bmB newId = true) (gC : X.mg y = some (.ref a)) (kC : PySem.W.keepIn X.K (.ref a) = true) (r : Raises X (.ref a)) (hg : Gl X y := by rfl)
    (hdb : (y == ("__debug__" : Str)) = false := by decide) : PS X (.Raise (some (.Call (.Name y p) [] [] pos)) none nm) fun _ σ H => xrd X.mg C Hs Γ Γ W ⟨y, none⟩ σ H :=
  (ps_raise hc tk (pmk_own0 F q gC kC r hg hdb)).wk fun σ H D ⟨⟨hs, h⟩, q⟩ => q σ _ _ hs H h ⟨a, gC, rfl, rfl⟩
end
/-! ### a def's body that may raise -/
/-- what it comes to -/
def endX (G : Ctx) : Except Exn M → OX
  | .ok m => .en (.rt G m)
  | .error x => .ex G x
theorem fnx_body {P : Program} {w : World} {K : PySem.W.Frag} {mg : Str → Option Value} {base : Heap} {k n : Nat} {f : Addr} {fd : FuncData} {x qual : Str} {params : Arguments} {body : List Stmt} {sc : Scope} {N ps : List Str} {rel : List M → Except Exn M → Prop}
    (F : FunD K x qual params body sc [] [] f fd) (S : FnScope N ps sc) (hn : n = ps.length) (hN : n ≤ N.length) (hrel : ∀ ms r, rel ms r → ms.length = n)
    (hb : ∀ (cdv : Value) (A : Around) (outer : List Env) (s : Shared) (H : Hp) (E : XK) (H0 : Hp) (io : FS) (pin : List (Nat × V)) (mio : ∀ a, io a → Mut (H0 a)), (∀ p ∈ pin, p.1 ∈ ([] : List Nat)) → Room k (A.deeper (PyProof.Rows.envOfC qual sc s.heap.objs.size f cdv)) → A.guards = some [] →
      Takes (cxOf (L2.CX P w) P w K mg base N qual sc f cdv A outer s H E) (fun cls d _ H => E cls d H) →
      ∀ ms r, rel ms r → ∃ G, SG (cxOf (L2.CX P w) P w K mg base N qual sc f cdv A outer s H E) mg ⟨K, H0, io, pin, mio⟩ (fun cls d _ H => E cls d H) [] (ms.map some ++ List.replicate (N.length - n) none) body (endX G r)) :
    FnX P w K mg base (k + 1) f fd ps (spX K mg n rel) := by
  obtain ⟨oc, od, dV, kV, doc, pm, an, cdv, ct, osl, rfl, lk, hcd, _, _⟩ := F.ex
  refine FnX.of lk hcd S (spX_len hn) fun A outer s H vs Q E hr hg hsp => ?_
  obtain ⟨ms, G, hvl, hms, hres⟩ := hsp
  have mio : ∀ a, G a → Mut (H a) := fun a ha => rMs.mut hms ha
  have tk : Takes (cxOf (L2.CX P w) P w K mg base N qual sc f cdv A outer s H E) (fun cls d _ H => E cls d H) := takes_of rfl rfl rfl rfl
  have hlen : (L2.start N vs).length = N.length := by
    unfold L2.start
    rw [List.length_append, List.length_map, List.length_replicate]
    omega
  have hst : ∀ i, i < n → (L2.start N vs)[i]? = some (some (vs.getD i .non)) := fun i hi => by
    unfold L2.start
    rw [List.getElem?_append_left (by rw [List.length_map]; omega), List.getElem?_map]
    have : vs[i]? = some vs[i] := List.getElem?_eq_getElem (by omega)
    rw [this, List.getD_eq_getElem?_getD, this] <;> rfl
  have B : AsB ⟨K, H, G, [], mio⟩ (List.replicate N.length none) [] (L2.start N vs) [] ms vs H (fun _ => e0) G := by
    refine ⟨⟨by simp [hlen], rfl, fun i m e => ?_, fun k t e => by simp at e, fun x y _ => Dj.e0l, fun x a z => z.elim, fun x a z => z.elim, fun a o e _ => e, fun p hp => nomatch hp⟩, hms, fun x => Dj.e0l, fun a ha => .inl ha⟩
    rw [List.getElem?_replicate] at e
    split at e <;> cases e
  have lms : ms.length = n := hms.len.symm.trans hvl
  have A0 := B.putAll (js := (List.range' 0 ms.length).map some) fun k j hk => by
    rw [List.getElem?_map] at hk
    cases e : (List.range' 0 ms.length)[k]? with
    | none => rw [e] at hk; cases hk
    | some j' =>
      rw [e] at hk
      cases hk
      have hkl : k < ms.length := by
        have := (List.getElem?_eq_some_iff.mp e).1
        simpa using this
      have e2 : (List.range' 0 ms.length)[k]? = some k := by
        rw [List.getElem?_range' hkl]; simp
      rw [e] at e2
      cases e2
      refine ⟨vs.getD k .non, ?_, hst k (by omega)⟩
      have : vs[k]? = some vs[k] := List.getElem?_eq_getElem (by omega)
      rw [List.getD_eq_getElem?_getD, this] <;> rfl
  have ep : putAll (List.replicate N.length none) ((List.range' 0 ms.length).map some) ms = ms.map some ++ List.replicate (N.length - n) none := by
    have := putAll_start ms [] N.length (by omega)
    simp only [List.nil_append, List.length_nil] at this
    rw [this, lms]
  rw [ep] at A0
  have fin : ∀ {Γ' : Ctx} {σ : L2.St} {H' : Hp} {hs : List V}, As ⟨K, H, G, [], mio⟩ Γ' [] σ hs H' → Frm H G H' := fun h => by
    obtain ⟨fp, W⟩ := h
    exact W.fr
  rcases hres with ⟨r, hre, q⟩ | ⟨x, hre, q⟩
  · obtain ⟨Gr, hs⟩ := hb cdv A outer s H E H G [] mio (fun p hp => nomatch hp) hr hg tk ms _ hre
    refine ⟨_, hs, ⟨_, A0⟩, fun σ hs' v H' h' => ?_⟩
    have hf := fin h'.pop
    obtain ⟨F', rr, up⟩ := h'.top
    obtain ⟨fp, W⟩ := h'
    have l0 : hs' = [] := by
      have := W.ln
      simp at this
      exact this
    subst l0
    obtain ⟨v1, hv1, r1⟩ := W.tp 0 (.own r) rfl
    cases hv1
    refine q v H' (fp (.inr 0)) ?_ (fun a ha => W.sn _ a ha) hf
    unfold rMs
    refine ⟨v, [], _, e0, rfl, r1, by unfold rMs; exact ⟨rfl, fun _ z => z⟩, Dj.e0r, fun a => ⟨.inl, fun z => z.elim id fun y => y.elim⟩⟩
  · obtain ⟨Gr, hs⟩ := hb cdv A outer s H E H G [] mio (fun p hp => nomatch hp) hr hg tk ms _ hre
    exact ⟨_, hs, ⟨_, A0⟩, fun σ' cls d hs' H' h' ex => q cls d H' ex (fin h')⟩
end RL

set_option maxHeartbeats 4000000
/-! RL36: try .. except, more facts of the top -/
namespace RL
open PySem L2 PySem.Spec PyProof.Rows
abbrev Cn.pinned (C : Cn) (i : Nat) (v : V) : Cn := ⟨C.K, C.H0, C.io, (i, v) :: C.pin, C.mio⟩
section
variable {C : Cn} {Γ : Ctx} {Ts : List T} {σ : L2.St} {vs : List V} {H : Hp} {i : Nat} {v : V}
theorem As.pinIt (h : As C Γ Ts σ vs H) (e : σ[i]? = some (some v)) : As (C.pinned i v) Γ Ts σ vs H := by
  obtain ⟨fp, W⟩ := h
  exact ⟨fp, W.lg, W.ln, W.sl, W.tp, W.dj, W.sn, W.mu, W.fr, fun p hp => by
    rcases List.mem_cons.mp hp with z | z
    · rw [z]; exact e
    · exact W.pn p z⟩
theorem As.unpin (h : As (C.pinned i v) Γ Ts σ vs H) : As C Γ Ts σ vs H := by
  obtain ⟨fp, W⟩ := h
  exact ⟨fp, W.lg, W.ln, W.sl, W.tp, W.dj, W.sn, W.mu, W.fr, fun p hp => W.pn p (List.mem_cons_of_mem _ hp)⟩
theorem As.pinVal (h : As (C.pinned i v) Γ Ts σ vs H) : σ[i]? = some (some v) := by
  obtain ⟨fp, W⟩ := h
  exact W.pn (i, v) List.mem_cons_self
end
section
variable {X : Cx} {C : Cn} {Hs : List T} {Γ Γx Γ' : Ctx} {i : Nat} {n x : Str} {c : Value} {np pos pos' : Pos} {body suite : List Stmt} {b₀ : Stmt} {o : O} {e : Exn} {m : M} {D : Addr}
theorem takes_none : Takes X (fun _ _ _ _ => False) := fun u s' ⟨_, _, _, _, _, _, _, _, _, _, _, _, _, _, _, _, z⟩ => z.elim
end
/-! #### isinstance of the caught error -/
section
variable {X : Cx} {C : Cn} {Γ : Ctx} {Ts : List T} {i : Nat} {a D Y : Addr} {oe : Obj} {pn : List (Addr × Obj)} {nme : Expr} {y : Str} {p p2 pos : Pos} {b : Bool}
theorem ee_isExn (T : ExcC X.K D) (hz : Zc (.ref D) none oe) (hf : ∃ vs, oe.data = .fields vs) (hm : X.mg "isinstance" = none) (hn : PE (X.suite a ((a, oe) :: pn)) nme (tVar i)) (hY : X.mg y = some (.ref Y)) (kit : PySem.W.kitOne X.K (.ref D) (.ref Y) = some b)
    (hg : Gl X "isinstance" := by rfl) (hgy : Gl X y := by rfl) (hdb : (y == ("__debug__" : Str)) = false := by decide)
    (he : starEach [nme, .Name y p2] X.env = (false, eval nme X.env) :: starEach [.Name y p2] X.env := by rfl) (heb : starEach [.Name y p2] X.env = (false, eval (.Name y p2) X.env) :: starEach [] X.env := by rfl) (hpl : (backTo pos (starEach [.Name y p2] X.env)).any (·.1) = false := by rfl) :
    EE (X.suite a ((a, oe) :: pn)) (C.pinned i (.ref a)) Γ Ts (.Call (.Name "isinstance" p) [nme, .Name y p2] [] pos) Γ (.im (.bl b)) := by
  have e2 : PE (X.suite a ((a, oe) :: pn)) (.Name y p2) (tC (.ref Y)) := pe_glob hgy hY rfl hdb
  refine (pe_callB (call_isE T hz hf) hg hm (by decide +kernel) (pa_cons hn (pa_cons e2 pa_nil heb) he) (by decide) (by decide) he hpl).wk fun σ H Q ⟨vs, h, q⟩ => ?_
  refine ⟨.ref a, h.pinVal, ?_⟩
  refine ⟨.ref Y, .ref Y, b, rfl, fun u r => r, kit, q _ H (h.pushIm Ext.refl (by unfold rD; rfl))⟩
end
/-! ### what the top leaves, more of it -/
def obsZ (z : PySem.W.Frag → Bool) (fa : List He.Fa) (fn : List He.DefD) (K : PySem.W.Frag) : Bool × He.AlD := (z K, He.obsD fa fn K)
def SaysZ (z : PySem.W.Frag → Bool) (fa : List He.Fa) (fn : List He.DefD) (K : PySem.W.Frag) : Prop := obsZ z fa fn K = (true, He.valD fn)
theorem SaysZ.d {z : PySem.W.Frag → Bool} {fa : List He.Fa} {fn : List He.DefD} {K : PySem.W.Frag} (c : SaysZ z fa fn K) : He.SaysD fa fn K := congrArg (fun q : Bool × He.AlD => q.2) c
theorem SaysZ.z {z : PySem.W.Frag → Bool} {fa : List He.Fa} {fn : List He.DefD} {K : PySem.W.Frag} (c : SaysZ z fa fn K) : z K = true := congrArg (fun q : Bool × He.AlD => q.1) c
/-- a class of errors, as isinstance wants it -/
def excB (K : PySem.W.Frag) (D : Addr) : Bool :=
  decide (PySem.W.findIn K (.ref D) "__getattribute__" = some (some (.builtin "BaseException.__getattribute__"))) && decide (PySem.W.findIn K (.ref D) "__getattr__" = some none) && decide (PySem.W.subIn K (.ref D) (.type "BaseException") = some true) && PySem.W.hasDictIn K D &&
  decide (PySem.W.findIn K (.ref D) "__class__" = some (some (.builtin "object.__class__"))) && decide (PySem.W.specialIn K (.builtin "object.__class__") "__get__" = some (some (.builtin "getset_descriptor.__get__"))) && decide (PySem.W.takesIn K (.builtin "object.__class__") = some true) && decide (PySem.W.mroIn K D (.type "object") = some true)
theorem excB_ok {K : PySem.W.Frag} {D : Addr} (h : excB K D = true) : ExcC K D := by
  unfold excB at h
  simp only [Bool.and_eq_true, decide_eq_true_eq] at h
  obtain ⟨⟨⟨⟨⟨⟨⟨h1, h2⟩, h3⟩, h4⟩, h5⟩, h6⟩, h7⟩, h8⟩ := h
  exact ⟨h1, h2, h3, h4, h5, h6, h7, h8⟩
/-- class x is told by isinstance to be one of y -/
def kitB2 (x y : Str) (K : PySem.W.Frag) : Bool := decide (PySem.W.kitOne K (.ref (He.ga K x)) (.ref (He.ga K y)) = some true)
def excBx (x : Str) (K : PySem.W.Frag) : Bool := excB K (He.ga K x)
/-! ### what mirrors of raising defs say -/
def xmp {R : Type} (g : R → M) : Except Exn R → Except Exn M
  | .ok r => .ok (g r)
  | .error x => .error x
def xk {R Q : Type} (p : Except Exn R) (f : Exn → Option Q) (g : R → Option Q) : Option Q := match p with
  | .error x => f x
  | .ok r => g r
theorem xk_x {R Q : Type} {x : Exn} {f : Exn → Option Q} {g : R → Option Q} {r : Option Q} (h : xk (.error x) f g = r) : f x = r := h
theorem xk_v {R Q : Type} {v : R} {f : Exn → Option Q} {g : R → Option Q} {r : Option Q} (h : xk (.ok v) f g = r) : g v = r := h
/-- what is known of a class of errors of the module, without an __init__ of its own -/
structure ExcF (K : PySem.W.Frag) (mg : Str → Option Value) (x : Str) (a : Addr) : Prop where
  g : mg x = some (.ref a)
  q : PySem.W.excIn K a He.veBase "ValueError.__new__" = true
  k : PySem.W.keepIn K (.ref a) = true
  s : PySem.W.subIn K (.ref a) (.type "BaseException") = some true
  t : PySem.W.typeIn K (.ref a) = some (.type "type")
theorem excF_ok {K : PySem.W.Frag} {mg : Str → Option Value} {h : Heap} {x : Str} (X : K.In h) (G : h.Ns mainGlobals mg) (c0 : (He.Fa.glo x).ok K = true) (c : (He.Fa.exc x).ok K = true) : ExcF K mg x (He.ga K x) := by
  have c : (PySem.W.excIn K (He.ga K x) He.veBase "ValueError.__new__" && (PySem.W.keepIn K (.ref (He.ga K x)) && (decide (PySem.W.subIn K (.ref (He.ga K x)) (.type "BaseException") = some true) && decide (PySem.W.typeIn K (.ref (He.ga K x)) = some (.type "type"))))) = true := c
  simp only [Bool.and_eq_true, decide_eq_true_eq] at c
  exact ⟨He.glo_ok X G c0, c.1, c.2.1, c.2.2.1, c.2.2.2⟩
section
variable {X : Cx} {mg : Str → Option Value} {C : Cn} {W : WX} {Hs : List T} {Γ Γ1 Γ2 : Ctx} {pos nm : Pos} {st : Stmt} {sts : List Stmt} {K : List (List Stmt)} {y : Str} {a : Addr} {x : Exn}
theorem xs_wk (h : PS X st fun _ σ H => xrd mg C Hs Γ Γ1 W x σ H) (w : wkL Γ2 Γ1) : PS X st fun _ σ H => xrd mg C Hs Γ Γ2 W x σ H := h.wk fun σ H D ⟨h, q⟩ => ⟨h, fun σ' cls d hs H' h' => q σ' cls d hs H' (h'.wk w)⟩
theorem xs_raiseF {posN : Pos} (hc : X.calm = true) (tk : Takes X W) (F : ExcF X.K X.mg y a) (hg : Gl X y := by rfl) (hdb : (y == ("__debug__" : Str)) = false := by decide) : PS X (.Raise (some (.Call (.Name y posN) [] [] pos)) none nm) fun _ σ H => xrd X.mg C Hs Γ Γ W ⟨y, none⟩ σ H :=
  xs_raise0 hc tk PySem.F.excBase_ValueError F.q F.g F.k (raises_own F.s F.t) hg hdb
end
section
variable {X : Cx} {C : Cn} {Hs : List T} {Γ Γx : Ctx} {i : Nat} {n x : Str} {c : Value} {np pos pos' : Pos} {body suite : List Stmt} {b₀ : Stmt} {m : M} {R : Type} {p : Except Exn R} {g : R → M}
end
section
variable {X : Cx} {C : Cn} {Γ Γ1 Γ' : Ctx} {Ts : List T} {t : T} {a b c : Expr} {pos : Pos} {k : Bool} {y : Str} {ad : Addr}
theorem names_of (F : ExcF X.K X.mg y ad) (hg : Gl X y := by rfl) (hdb : (y == ("__debug__" : Str)) = false := by decide) : Names X y (.ref ad) := ⟨hg, hdb, .inl F.g⟩
end
section
variable {X : Cx} {C : Cn} {Γ : Ctx} {Ts : List T} {nm : Expr} {pos q : Pos} {d : Deck} {k0 : Nat}
end
end RL

set_option maxHeartbeats 4000000
/-! RL37: the greatest of a list, tuples taken no times, lists locked within tuples -/
namespace RL
open PySem L2 PySem.Spec PyProof.Rows
/-! ### max, min of a list -/
section
variable {X : Cx} {C : Cn} {Γ Γ1 Γ2 Γ3 Γ' : Ctx} {Ts Hs : List T} {t t1 t2 t3 : T} {ts : List T} {e a b c tg iter : Expr} {es rest : List Expr} {pos p p2 nm apos cpos : Pos} {nme : Expr} {i j : Nat} {d d1 d2 d3 : D} {ds ds' : List D} {m : M} {b1 b2 k : Bool} {α β : Type} {enc : α → D} {xs ys : List α} {x y : α} {n n' : Int} {ns : List Int}
end
/-! ### a tuple taken no times -/
section
variable {X : Cx}
end
section
variable {X : Cx} {C : Cn} {Γ Γ1 Γ2 Γ3 Γ' : Ctx} {Ts Hs : List T} {t t1 t2 t3 : T} {ts : List T} {e a b c tg iter : Expr} {es rest : List Expr} {pos p p2 nm apos cpos : Pos} {nme : Expr} {i j : Nat} {d d1 d2 d3 : D} {ds ds' : List D} {m : M} {b1 b2 k : Bool} {α β : Type} {enc : α → D} {xs ys : List α} {x y : α} {n n' : Int}
end
end RL

set_option maxHeartbeats 4000000
/-! RL38: comparisons one behind another -/
namespace RL
open PySem L2 PySem.Spec PyProof.Rows
section
variable {X : Cx} {C : Cn} {Γ Γ1 Γ2 Γ3 Γ' : Ctx} {Ts Hs : List T} {a b c : Expr} {pos : Pos} {n m k : Int}
end
end RL

set_option maxHeartbeats 4000000
/-! RL39: constants of the module: numbers, texts, tuples of such -/
namespace RL
open PySem L2 PySem.Spec PyProof.Rows
def mapO (f : Value → Option D) : List Value → Option (List D)
  | [] => some []
  | x :: xs => (f x).bind fun d => (mapO f xs).bind fun ds => some (d :: ds)
/-- the datum that a value of the kept heap bears -/
def cD (K : PySem.W.Frag) : Nat → Value → Option D
  | 0, _ => none
  | n + 1, u => match u with
    | .none => some .non
    | .bool b => some (.bl b)
    | .int i _ => some (.int i)
    | .str s _ => some (.str s)
    | .ref a => (match K.lookup a with
      | some o => if o.cls = .type "tuple" ∧ o.dict = none then (match o.data with
        | .seq its _ => if its.size ≤ 1000 then (mapO (cD K n) its.toList).map D.tup else none
        | _ => none) else none
      | none => none)
    | _ => none
theorem mapO_ok {K : PySem.W.Frag} {f : Value → Option D} (hf : ∀ u d, f u = some d → ∃ v, RelV v u ∧ ∀ H, rD K d v H) : ∀ {us : List Value} {ds : List D}, mapO f us = some ds → ∃ vs, Vals vs us ∧ ∀ H, rDs K ds vs H
  | [], ds, h => by
    cases h
    exact ⟨[], .nil, fun H => by unfold rDs; rfl⟩
  | u :: us, ds, h => by
    obtain ⟨d, h1, h2⟩ := bsplit h
    obtain ⟨ds2, h3, h4⟩ := bsplit h2
    cases h4
    obtain ⟨v, r1, q1⟩ := hf u d h1
    obtain ⟨vs, r2, q2⟩ := mapO_ok hf h3
    exact ⟨v :: vs, .cons r1 r2, fun H => by unfold rDs; exact ⟨v, vs, rfl, q1 H, q2 H⟩⟩
theorem cD_ok {K : PySem.W.Frag} : ∀ {n : Nat} {u : Value} {d : D}, cD K n u = some d → ∃ v, RelV v u ∧ ∀ H, rD K d v H
  | 0, u, d, h => by cases h
  | n + 1, u, d, h => by
    unfold cD at h
    split at h
    · cases h; exact ⟨.non, rfl, fun H => by unfold rD; rfl⟩
    · cases h; exact ⟨.bl _, rfl, fun H => by unfold rD; rfl⟩
    · cases h; exact ⟨.int _, ⟨_, rfl⟩, fun H => by unfold rD; rfl⟩
    · cases h; exact ⟨.str _, ⟨_, rfl⟩, fun H => by unfold rD; rfl⟩
    · rename_i a
      cases hl : K.lookup a with
      | none => rw [hl] at h; cases h
      | some o =>
        rw [hl] at h
        have h : (if o.cls = .type "tuple" ∧ o.dict = none then (match o.data with
          | .seq its _ => if its.size ≤ 1000 then (mapO (cD K n) its.toList).map D.tup else none
          | _ => none) else none) = some d := h
        by_cases hcd : o.cls = .type "tuple" ∧ o.dict = none
        · rw [if_pos hcd] at h
          have hc := hcd.1
          cases hd : o.data with
          | seq its k =>
            rw [hd] at h
            have h : (if its.size ≤ 1000 then (mapO (cD K n) its.toList).map D.tup else none) = some d := h
            by_cases hs : its.size ≤ 1000
            · rw [if_pos hs] at h
              cases hm : mapO (cD K n) its.toList with
              | none => rw [hm] at h; cases h
              | some ds =>
                rw [hm] at h
                cases h
                obtain ⟨vs, r, q⟩ := mapO_ok (fun u d e => cD_ok e) hm
                exact ⟨.ref a, rfl, fun H => by unfold rD; exact ⟨a, vs, rfl, ⟨.inr ⟨o, its, k, hl, hc, hd, by rw [sizeLine_eq]; omega, r⟩, .inr ⟨o, hl, hcd.2⟩⟩, q H⟩⟩
            · rw [if_neg hs] at h; cases h
          | _ => rw [hd] at h; cases h
        · rw [if_neg hcd] at h; cases h
    · cases h
def eqDs (f : D → D → Bool) : List D → List D → Bool
  | [], [] => true
  | a :: as, b :: bs => f a b && eqDs f as bs
  | _, _ => false
def eqDb : Nat → D → D → Bool
  | 0, _, _ => false
  | _ + 1, .non, .non => true
  | _ + 1, .bl a, .bl b => decide (a = b)
  | _ + 1, .int a, .int b => decide (a = b)
  | _ + 1, .str a, .str b => decide (a = b)
  | n + 1, .tup a, .tup b => eqDs (eqDb n) a b
  | _, _, _ => false
theorem eqDs_ok {f : D → D → Bool} (hf : ∀ a b, f a b = true → a = b) : ∀ {as bs : List D}, eqDs f as bs = true → as = bs
  | [], [], _ => rfl
  | a :: as, b :: bs, h => by
    unfold eqDs at h
    rw [Bool.and_eq_true] at h
    rw [hf a b h.1, eqDs_ok hf h.2]
  | [], b :: bs, h => by cases h
  | a :: as, [], h => by cases h
theorem eqDb_ok : ∀ {n : Nat} {a b : D}, eqDb n a b = true → a = b
  | 0, a, b, h => by cases h
  | n + 1, a, b, h => by
    unfold eqDb at h
    split at h
    · contradiction
    · rfl
    · rw [of_decide_eq_true h]
    · rw [of_decide_eq_true h]
    · rw [of_decide_eq_true h]
    · exact congrArg D.tup (eqDs_ok (fun a b h => eqDb_ok h) h)
    · cases h
/-- the module's name x bears the datum -/
def cstB (x : Str) (d : D) (K : PySem.W.Frag) : Bool := match PySem.W.nsIn K mainGlobals x with
  | some (some u) => (match cD K 8 u with
    | some e => eqDb 8 e d
    | none => false)
  | _ => false
/-- a constant of the module -/
def CstF (K : PySem.W.Frag) (mg : Str → Option Value) (x : Str) (d : D) : Prop := ∃ u v, mg x = some u ∧ RelV v u ∧ ∀ H, rD K d v H
theorem cstF_ok {K : PySem.W.Frag} {h : Heap} {mg : Str → Option Value} (X : K.In h) (G : h.Ns mainGlobals mg) {x : Str} {d : D} (c : cstB x d K = true) : CstF K mg x d := by
  unfold cstB at c
  cases e : PySem.W.nsIn K mainGlobals x with
  | none => rw [e] at c; cases c
  | some o =>
    cases o with
    | none => rw [e] at c; cases c
    | some u =>
      rw [e] at c
      have c : (match cD K 8 u with
        | some e => eqDb 8 e d
        | none => false) = true := c
      cases hd : cD K 8 u with
      | none => rw [hd] at c; cases c
      | some e2 =>
        rw [hd] at c
        have e3 := eqDb_ok (show eqDb 8 e2 d = true from c)
        subst e3
        obtain ⟨v, r, q⟩ := cD_ok hd
        exact ⟨u, v, PySem.W.mg_of X G e, r, q⟩
theorem ee_glob {X : Cx} {C : Cn} {Γ : Ctx} {Ts : List T} {x : Str} {pos : Pos} {d : D} (F : CstF C.K X.mg x d) (hg : Gl X x := by rfl) (hd : (x == ("__debug__" : Str)) = false := by decide) : EE X C Γ Ts (.Name x pos) Γ (.im d) := by
  obtain ⟨u, v, hm, r, q⟩ := F
  exact ee_cst (pe_glob hg hm r hd) q
end RL

set_option maxHeartbeats 4000000
/-! RL40: all, any, sum, sorted of lists -/
namespace RL
open PySem L2 PySem.Spec PyProof.Rows
section
variable {X : Cx} {C : Cn} {Γ Γ1 Γ2 Γ3 Γ' : Ctx} {Ts Hs : List T} {t t1 t2 t3 : T} {e a b c : Expr} {pos p : Pos} {bs : List Bool} {ns : List Int}
end
end RL

set_option maxHeartbeats 4000000
/-! RL41: isinstance of any data -/
namespace RL
open PySem L2 PySem.Spec PyProof.Rows
end RL

set_option maxHeartbeats 4000000
/-! RL42: any data, opened -/
namespace RL
open PySem L2 PySem.Spec PyProof.Rows
def asTup : D → Option (List D)
  | .tup l => some l
  | _ => none
section
variable {X : Cx} {C : Cn} {Γ Γ1 : Ctx} {Ts : List T} {e : Expr} {d : D}
end
end RL

set_option maxHeartbeats 4000000
/-! RL43: any datum in a list or tuple -/
namespace RL
open PySem L2 PySem.Spec PyProof.Rows
section
variable {X : Cx}
end
section
variable {X : Cx} {C : Cn} {Γ Γ1 Γ2 : Ctx} {Ts : List T} {t : T} {a b : Expr} {pos : Pos} {d : D} {l : List D} {k : Bool}
end
end RL

set_option maxHeartbeats 4000000
/-! RL44: any datum read as a typed one -/
namespace RL
open PySem L2 PySem.Spec PyProof.Rows
section
variable {X : Cx} {C : Cn} {Γ Γ1 : Ctx} {Ts : List T} {e : Expr} {d : D} {α : Type} {f : α → D} {g : D → Option α} {x : α}
end
end RL

set_option maxHeartbeats 4000000
/-! RL45: any datum: the same as another one, among texts, an empty tuple -/
namespace RL
open PySem L2 PySem.Spec PyProof.Rows
open PySem.AutoSeq1 (wpAny_loadPart')
/-! ### the same -/
/-! ### a text beside any datum -/
section
variable {A : Around} {s : Shared}
end
section
variable {X : Cx} {pins : List (Addr × Obj)} {σ : L2.St} {H : Hp} {s : Shared}
end
section
variable {X : Cx}
end
section
variable {X : Cx} {C : Cn} {Γ Γ1 Γ2 : Ctx} {Ts : List T} {a b : Expr} {pos q : Pos} {kk : Nat} {d : D} {l : List Str} {k : Bool} {α : Type} {enc : α → D} {xs : List α}
end
end RL
namespace RL
open PySem L2
end RL

set_option maxHeartbeats 4000000
/-! RL46: repr of any datum, with dicts -/
namespace RL
open PySem L2 PySem.Spec PyProof.Rows
/-- where the modules stand, a dict stands -/
def sysB (K : PySem.W.Frag) : Bool := match K.lookup sysModules with
  | some o => decide (o.cls = .type "dict")
  | none => false
theorem sys_not {K : PySem.W.Frag} {h : Heap} (hs : sysB K = true) (hk : K.In h) {a : Addr} {o : Obj} (ho : h.get? a = some o) (hc : o.cls ≠ .type "dict") : sysModules ≠ a := fun e => by
  subst e
  unfold sysB at hs
  cases z : K.lookup sysModules with
  | none => rw [z] at hs; cases hs
  | some u =>
    rw [z] at hs
    have q := hk _ _ z
    rw [ho] at q
    cases q
    exact hc (of_decide_eq_true hs)
/-! ### a datum as the library tells it, dicts too -/
def kq : Key → PyData
  | .inl i => .int i
  | .inr x => .str x
mutual
def D.q : D → PyData
  | .non => .none
  | .bl b => .bool b
  | .int i => .int i
  | .str s => .str s
  | .tup l => .tuple (qs l)
  | .lst l => .list (qs l)
  | .dct l => .dict (qk l)
  | .ty _ => .none
  | .tpw _ => .none
def qs : List D → List PyData
  | [] => []
  | d :: l => d.q :: qs l
def qk : List (Key × D) → List (PyData × PyData)
  | [] => []
  | (k, d) :: l => (kq k, d.q) :: qk l
end
mutual
/-- no class within -/
def D.rdy : D → Bool
  | .tup l => rdys l
  | .lst l => rdys l
  | .dct l => rdyk l
  | .ty _ => false
  | .tpw _ => false
  | .str s => PyData.strOk s
  | _ => true
def rdys : List D → Bool
  | [] => true
  | d :: l => d.rdy && rdys l
def rdyk : List (Key × D) → Bool
  | [] => true
  | (_, d) :: l => d.rdy && rdyk l
end
section
variable {X : Cx} {pins : List (Addr × Obj)} {σ : L2.St} {H : Hp} {s : Shared}
theorem keys_read {P : Program} {w : World} {hp : Heap} : ∀ {es : List DictEntry} {vs : List (Key × Value)}, Pairs (mixKind P w) es vs → (∀ kvs : List (Key × D), kvs.map (·.1) = vs.map (·.1) → ∃ as, ReadsAll hp (es.map (·.key)) ((qk kvs).map (·.1)) as ∧ sysModules ∉ as)
  | [], [], _, kvs, e => by
    cases kvs with
    | nil => exact ⟨_, by unfold qk; exact .nil, by simp⟩
    | cons p kvs => cases e
  | en :: es, kv :: vs, h, kvs, e => by
    cases h with
    | cons h1 h2 h3 =>
      cases kvs with
      | nil => cases e
      | cons p kvs =>
        obtain ⟨k, d⟩ := p
        rw [List.map_cons, List.map_cons] at e
        obtain ⟨e1, e2⟩ := List.cons.inj e
        have e1 : k = kv.1 := e1
        subst e1
        obtain ⟨as, r, n⟩ := keys_read h3 kvs e2
        rcases keyIs_shape h1 with ⟨i, t, ek, ev⟩ | ⟨x, t, ek, ev⟩
        · refine ⟨[] ++ as, ?_, by simpa using n⟩
          unfold qk
          rw [ek]
          show ReadsAll hp (en.key :: _) (PyData.int i :: _) _
          rw [ev]
          exact .cons (.int i t) r
        · refine ⟨[] ++ as, ?_, by simpa using n⟩
          unfold qk
          rw [ek]
          show ReadsAll hp (en.key :: _) (PyData.str x :: _) _
          rw [ev]
          exact .cons (.str x t) r
theorem pairs_vals {P : Program} {w : World} : ∀ {es : List DictEntry} {vs : List (Key × Value)}, Pairs (mixKind P w) es vs → es.map (·.val) = vs.map (·.2)
  | [], [], _ => rfl
  | en :: es, kv :: vs, h => by
    cases h with
    | cons h1 h2 h3 => rw [List.map_cons, List.map_cons, h2, pairs_vals h3]
theorem kv_keys : ∀ {kvs : List (Key × V)} {vs : List (Key × Value)}, KV kvs vs → kvs.map (·.1) = vs.map (·.1)
  | _, _, .nil => rfl
  | _, _, .cons h t => by rw [List.map_cons, List.map_cons, h.1, kv_keys t]
theorem kv_vals : ∀ {kvs : List (Key × V)} {vs : List (Key × Value)}, KV kvs vs → Vals (kvs.map (·.2)) (vs.map (·.2))
  | _, _, .nil => .nil
  | _, _, .cons h t => .cons h.2 (kv_vals t)
theorem rDk_keys {K : PySem.W.Frag} {H : Hp} : ∀ {l : List (Key × D)} {kvs : List (Key × V)}, rDk K l kvs H → l.map (·.1) = kvs.map (·.1)
  | [], kvs, h => by unfold rDk at h; rw [h] <;> rfl
  | (k, d) :: l, kvs, h => by
    unfold rDk at h
    obtain ⟨w, ws, e, _, h⟩ := h
    rw [e, List.map_cons, List.map_cons, rDk_keys h]
mutual
theorem rD.sees (I : Inv X pins σ H s) (hs : sysB X.K = true) : ∀ {d : D} {v : V} {u : Value}, d.rdy = true → rD X.K d v H → RelV v u → ∃ as, Reads s.heap u d.q as ∧ sysModules ∉ as
  | .non, v, u, _, h, r => by unfold rD at h; subst h; cases (show u = Value.none from r); unfold D.q; exact ⟨_, .none, by simp⟩
  | .bl b, v, u, _, h, r => by unfold rD at h; subst h; cases (show u = Value.bool b from r); unfold D.q; exact ⟨_, .bool b, by simp⟩
  | .int i, v, u, _, h, r => by unfold rD at h; subst h; obtain ⟨t, rfl⟩ := r; unfold D.q; exact ⟨_, .int i t, by simp⟩
  | .str x, v, u, _, h, r => by unfold rD at h; subst h; obtain ⟨t, rfl⟩ := r; unfold D.q; exact ⟨_, .str x t, by simp⟩
  | .tup l, v, u, k, h, r => by
    unfold rD at h
    unfold D.rdy at k
    obtain ⟨a, vs, e, hq, rd⟩ := h
    subst e
    cases (show u = Value.ref a from r)
    obtain ⟨its, rv, ⟨o, ho, hc, n, hd⟩, _⟩ := I.tuple hq.t
    obtain ⟨as, hr, hn⟩ := rDs.sees I hs k rd rv
    unfold D.q
    exact ⟨_, .tuple ho hc hd hr, hn⟩
  | .lst l, v, u, k, h, r => by
    unfold rD at h
    unfold D.rdy at k
    obtain ⟨a, vs, e, hq, rd⟩ := h
    subst e
    cases (show u = Value.ref a from r)
    obtain ⟨its, rv, ⟨o, n, ho, hc, _, hd⟩, _⟩ := I.list (a := a) (xs := vs) hq.sq
    obtain ⟨as, hr, hn⟩ := rDs.sees I hs k rd rv
    unfold D.q
    refine ⟨_, .list ho hc hd hr, fun z => ?_⟩
    rcases List.mem_cons.mp z with z | z
    · exact sys_not hs I.kIn ho (by rw [hc]; decide) z
    · exact hn z
  | .dct l, v, u, k, h, r => by
    unfold rD at h
    unfold D.rdy at k
    obtain ⟨a, ob, kvs, e, hq, rd⟩ := h
    subst e
    cases (show u = Value.ref a from r)
    obtain ⟨_, low, vs, rkv, o, es, ep, ho, hx, hd, _, hp, _⟩ := dk_rd I.hok (.inr ⟨ob, hq⟩)
    obtain ⟨as, r1, n1⟩ := keys_read (hp := s.heap) hp l ((rDk_keys rd).trans (kv_keys rkv))
    obtain ⟨bs, r2, n2⟩ := rDk.sees I hs k rd (kv_vals rkv)
    rw [← pairs_vals hp] at r2
    unfold D.q
    refine ⟨_, .dict ho hx.1 hd r1 r2, fun z => ?_⟩
    rcases List.mem_append.mp z with z | z
    · rcases List.mem_cons.mp z with z | z
      · rw [z] at low; simp at low
      · exact n1 z
    · exact n2 z
  | .ty _, v, u, k, h, r => by unfold D.rdy at k; cases k
  | .tpw _, v, u, k, h, r => by unfold D.rdy at k; cases k
theorem rDs.sees (I : Inv X pins σ H s) (hs : sysB X.K = true) : ∀ {l : List D} {vs : List V} {us : List Value}, rdys l = true → rDs X.K l vs H → Vals vs us → ∃ as, ReadsAll s.heap us (qs l) as ∧ sysModules ∉ as
  | [], vs, us, _, h, r => by unfold rDs at h; subst h; cases r; unfold qs; exact ⟨_, .nil, by simp⟩
  | d :: l, vs, us, k, h, r => by
    unfold rDs at h
    unfold rdys at k
    rw [Bool.and_eq_true] at k
    obtain ⟨w, ws, rfl, h1, h2⟩ := h
    cases r with
    | cons r1 r2 =>
      obtain ⟨as, q1, n1⟩ := rD.sees I hs k.1 h1 r1
      obtain ⟨bs, q2, n2⟩ := rDs.sees I hs k.2 h2 r2
      unfold qs
      exact ⟨_, .cons q1 q2, fun z => (List.mem_append.mp z).elim n1 n2⟩
theorem rDk.sees (I : Inv X pins σ H s) (hs : sysB X.K = true) : ∀ {l : List (Key × D)} {kvs : List (Key × V)} {us : List Value}, rdyk l = true → rDk X.K l kvs H → Vals (kvs.map (·.2)) us → ∃ as, ReadsAll s.heap us ((qk l).map (·.2)) as ∧ sysModules ∉ as
  | [], vs, us, _, h, r => by unfold rDk at h; subst h; cases r; unfold qk; exact ⟨_, .nil, by simp⟩
  | (x, d) :: l, vs, us, k, h, r => by
    unfold rDk at h
    unfold rdyk at k
    rw [Bool.and_eq_true] at k
    obtain ⟨w, ws, rfl, h1, h2⟩ := h
    rw [List.map_cons] at r
    cases r with
    | cons r1 r2 =>
      obtain ⟨as, q1, n1⟩ := rD.sees I hs k.1 h1 r1
      obtain ⟨bs, q2, n2⟩ := rDk.sees I hs k.2 h2 r2
      unfold qk
      rw [List.map_cons]
      exact ⟨_, .cons q1 q2, fun z => (List.mem_append.mp z).elim n1 n2⟩
end
end
/-- what repr can show of any datum -/
def showsX (q : PyData) : Bool := q.showable && decide (q.depth ≤ 60) && decide (q.shown.length ≤ sizeLine)
def rReprX (K : PySem.W.Frag) : List V → Hp → VK → Prop := fun xs H Q => ∃ v d, xs = [v] ∧ rD K d v H ∧ d.rdy = true ∧ d.q.showable = true ∧ d.q.depth ≤ 60 ∧ d.q.shown.length ≤ sizeLine ∧ Q (.str d.q.shown) H
section
variable {X : Cx}
theorem call_reprX (hy : sysB X.K = true) (hg : X.A.guards = some []) (hu : X.A.units + 64 < cLine) : CallR X (.builtin "repr") (rReprX X.K) := by
  rintro pins s σ H xs us Q I r ⟨v, d, rfl, b, hd, hs, hp, hz, q⟩
  obtain ⟨u, rfl, ru⟩ := Vals.one r
  obtain ⟨as, rs, hn⟩ := rD.sees I hy hd b ru
  revert rs hs hp hz q
  generalize d.q = p
  intro hs hp hz q rs
  cases rs with
  | none => exact PySem.P.repr_of_none ⟨.str _, H, I.tok _, ⟨_, rfl⟩, by unfold PyData.shown at q; exact q⟩
  | bool b => exact PySem.P.repr_of_bool ⟨.str _, H, I.tok _, ⟨_, rfl⟩, by unfold PyData.shown at q; exact q⟩
  | int i t =>
    have hs' : i.natAbs.log2 < 1920 := by unfold PyData.showable at hs; exact of_decide_eq_true hs
    exact PySem.P.repr_of_int hs' ⟨.str _, H, I.tok _, ⟨_, rfl⟩, by unfold PyData.shown at q; exact q⟩
  | str x t => exact PySem.P.repr_of_str ⟨.str _, H, I.tok _, ⟨_, rfl⟩, by unfold PyData.shown at q; exact q⟩ (by unfold PyData.shown at hz; exact hz)
  | list h1 h2 h3 h4 => exact repr_of_reads' (.list h1 h2 h3 h4) hs (fun _ => hn) hg (by omega) (fun _ _ e => e) (fun h' u tk hk => ⟨.str _, H, I.kept (t' := tk) hk, ⟨_, rfl⟩, q⟩) hz
  | tuple h1 h2 h3 h4 => exact repr_of_reads' (.tuple h1 h2 h3 h4) hs (fun _ => hn) hg (by omega) (fun _ _ e => e) (fun h' u tk hk => ⟨.str _, H, I.kept (t' := tk) hk, ⟨_, rfl⟩, q⟩) hz
  | dict h1 h2 h3 h4 h5 => exact repr_of_reads' (.dict h1 h2 h3 h4 h5) hs (fun _ => hn) hg (by omega) (fun _ _ e => e) (fun h' u tk hk => ⟨.str _, H, I.kept (t' := tk) hk, ⟨_, rfl⟩, q⟩) hz
end
def shXX (d : D) : Option Str := if (d.rdy && showsX d.q) = true then some d.q.shown else none
section
variable {X : Cx} {C : Cn} {Γ Γ1 : Ctx} {Ts : List T} {e : Expr} {pos nm : Pos} {d : D} {s : Str}
theorem ee_shXX (hy : sysB X.K = true) (hG : X.A.guards = some []) (hu : X.A.units + 64 < cLine) (hm : X.mg "repr" = none) (h : EE X C Γ Ts e Γ1 (.im d)) (hs : shXX d = some s) (hg : Gl X "repr" := by rfl) (hK : X.K = C.K := by rfl) (he : starEach [e] X.env = (false, eval e X.env) :: starEach [] X.env := by rfl) (hpl : (backTo pos (starEach [] X.env)).any (·.1) = false := by rfl) : EE X C Γ Ts (.Call (.Name "repr" nm) [e] [] pos) Γ1 (.im (.str s)) := by
  unfold shXX at hs
  split at hs
  · rename_i z
    cases hs
    unfold showsX at z
    simp only [Bool.and_eq_true, decide_eq_true_eq] at z
    exact cb_wk (cls_1 fun x H hx Q q => ⟨x, d, rfl, by rw [hK]; exact hx, z.1, z.2.1.1, z.2.1.2, z.2.2, q _ (by unfold rD; rfl)⟩) (pe_callB (call_reprX hy hG hu) hg hm (by decide +kernel) (ea_cons h ea_nil he) (by decide) (by decide) he hpl)
  · cases hs
end
/-! ### a dict is locked -/
section
variable {K : PySem.W.Frag} {H : Hp}
end
section
variable {X : Cx} {C : Cn} {Γ Γ1 : Ctx} {Ts : List T} {e : Expr} {l : List (Key × D)}
end
/-! ### what the top leaves, with the dict of the modules -/
end RL

set_option maxHeartbeats 4000000
/-! RL47: comparisons of any data as tests -/
namespace RL
open PySem L2 PySem.Spec PyProof.Rows
section
variable {X : Cx} {C : Cn} {Γ Γ1 Γ2 : Ctx} {Ts : List T} {a b c : Expr} {pos q : Pos} {kk : Nat} {d : D} {l : List Str} {α : Type} {enc : α → D} {xs : List α} {n m k : Int}
end
end RL

set_option maxHeartbeats 4000000
/-! RL48: plain: any data of a bounded size, as repr shows them -/
namespace RL
open PySem L2
/-- can be shown, no deeper than k -/
def okX (k : Nat) (d : D) : Prop := d.rdy = true ∧ d.q.showable = true ∧ d.q.leavesShort 100 = true ∧ d.q.depth ≤ k
abbrev blk (d : D) : Nat := d.q.bulk
def sumB : List D → Nat
  | [] => 0
  | d :: l => blk d + 1 + sumB l
def FX (k n : Nat) (d : D) : Prop := okX k d ∧ blk d ≤ n
def FXs (k n : Nat) (l : List D) : Prop := (∀ d ∈ l, okX k d) ∧ sumB l ≤ n
theorem sumB_n : sumB [] = 0 := rfl
theorem sumB_c {d : D} {l : List D} : sumB (d :: l) = blk d + 1 + sumB l := rfl
theorem sumB_q : ∀ l : List D, PyData.bulkAll (qs l) = sumB l
  | [] => by unfold qs PyData.bulkAll sumB; rfl
  | d :: l => by unfold qs PyData.bulkAll sumB; rw [sumB_q l]
theorem all_q {k : Nat} : ∀ {l : List D}, (∀ d ∈ l, okX k d) ↔ (rdys l = true ∧ PyData.showableAll (qs l) = true ∧ PyData.leavesShortAll 100 (qs l) = true ∧ PyData.depthAll (qs l) ≤ k)
  | [] => by
    refine ⟨fun _ => ⟨by unfold rdys; rfl, ?_, ?_, ?_⟩, fun _ d h => nomatch h⟩ <;> unfold qs
    · unfold PyData.showableAll; rfl
    · unfold PyData.leavesShortAll; rfl
    · unfold PyData.depthAll; omega
  | d :: l => by
    have ih := all_q (k := k) (l := l)
    have e : (∀ x ∈ d :: l, okX k x) ↔ (okX k d ∧ ∀ x ∈ l, okX k x) := by simp
    have e1 : rdys (d :: l) = (d.rdy && rdys l) := by rw [rdys.eq_def] <;> rfl
    have e2 : qs (d :: l) = d.q :: qs l := by rw [qs.eq_def] <;> rfl
    have e3 : PyData.showableAll (d.q :: qs l) = (d.q.showable && PyData.showableAll (qs l)) := by rw [PyData.showableAll.eq_def] <;> rfl
    have e4 : PyData.leavesShortAll 100 (d.q :: qs l) = (d.q.leavesShort 100 && PyData.leavesShortAll 100 (qs l)) := by rw [PyData.leavesShortAll.eq_def] <;> rfl
    have e5 : PyData.depthAll (d.q :: qs l) = max d.q.depth (PyData.depthAll (qs l)) := by rw [PyData.depthAll.eq_def] <;> rfl
    rw [e, ih, e1, e2, e3, e4, e5]
    unfold okX
    simp only [Bool.and_eq_true, Nat.max_le]
    constructor
    · rintro ⟨⟨a1, a2, a3, a4⟩, b1, b2, b3, b4⟩
      exact ⟨⟨a1, b1⟩, ⟨a2, b2⟩, ⟨a3, b3⟩, a4, b4⟩
    · rintro ⟨⟨a1, b1⟩, ⟨a2, b2⟩, ⟨a3, b3⟩, a4, b4⟩
      exact ⟨⟨a1, a2, a3, a4⟩, b1, b2, b3, b4⟩
theorem okX_tup {k : Nat} {l : List D} : okX (k + 1) (.tup l) ↔ ∀ d ∈ l, okX k d := by
  rw [all_q]
  unfold okX D.rdy D.q PyData.showable PyData.leavesShort PyData.depth
  constructor
  · rintro ⟨a, b, c, d⟩; exact ⟨a, b, c, by omega⟩
  · rintro ⟨a, b, c, d⟩; exact ⟨a, b, c, by omega⟩
theorem okX_lst {k : Nat} {l : List D} : okX (k + 1) (.lst l) ↔ ∀ d ∈ l, okX k d := by
  rw [all_q]
  unfold okX D.rdy D.q PyData.showable PyData.leavesShort PyData.depth
  constructor
  · rintro ⟨a, b, c, d⟩; exact ⟨a, b, c, by omega⟩
  · rintro ⟨a, b, c, d⟩; exact ⟨a, b, c, by omega⟩
theorem okX_tup0 {k : Nat} {l : List D} (h : okX k (.tup l)) : ∃ j, k = j + 1 ∧ ∀ d ∈ l, okX j d := by
  cases k with
  | zero =>
    have := h.2.2.2
    unfold D.q PyData.depth at this
    omega
  | succ j => exact ⟨j, rfl, okX_tup.mp h⟩
theorem blk_tup {l : List D} : blk (.tup l) = sumB l := by unfold blk D.q PyData.bulk; exact sumB_q l
theorem blk_lst {l : List D} : blk (.lst l) = sumB l := by unfold blk D.q PyData.bulk; exact sumB_q l
theorem okX.mono {k m : Nat} {d : D} (h : okX k d) (e : k ≤ m) : okX m d := ⟨h.1, h.2.1, h.2.2.1, by have := h.2.2.2; omega⟩
theorem FX.mono {k m n j : Nat} {d : D} (h : FX k n d) (e : k ≤ m) (e2 : n ≤ j) : FX m j d := ⟨h.1.mono e, by have := h.2; omega⟩
theorem FXs.mono {k m n j : Nat} {l : List D} (h : FXs k n l) (e : k ≤ m) (e2 : n ≤ j) : FXs m j l := ⟨fun d hd => (h.1 d hd).mono e, by have := h.2; omega⟩
theorem FX.tup {k n : Nat} {l : List D} (h : FXs k n l) : FX (k + 1) n (.tup l) := ⟨okX_tup.mpr h.1, by rw [blk_tup]; exact h.2⟩
theorem FX.lst {k n : Nat} {l : List D} (h : FXs k n l) : FX (k + 1) n (.lst l) := ⟨okX_lst.mpr h.1, by rw [blk_lst]; exact h.2⟩
theorem FX.items {k n : Nat} {l : List D} (h : FX k n (.tup l)) : ∃ j, k = j + 1 ∧ FXs j n l := by
  obtain ⟨j, e, q⟩ := okX_tup0 h.1
  exact ⟨j, e, q, by rw [← blk_tup]; exact h.2⟩
theorem sumB_app : ∀ {a b : List D}, sumB (a ++ b) = sumB a + sumB b
  | [], b => by rw [sumB_n, List.nil_append]; omega
  | d :: a, b => by
    rw [List.cons_append, sumB_c, sumB_c, sumB_app]
    omega
theorem FXs.app {k n m : Nat} {a b : List D} (h : FXs k n a) (h2 : FXs k m b) : FXs k (n + m) (a ++ b) := ⟨fun d hd => (List.mem_append.mp hd).elim (h.1 d) (h2.1 d), by rw [sumB_app]; have := h.2; have := h2.2; omega⟩
theorem FXs.one {k n : Nat} {d : D} (h : FX k n d) : FXs k (n + 1) [d] := ⟨fun x hx => by rw [List.mem_singleton.mp hx]; exact h.1, by rw [sumB_c, sumB_n]; have := h.2; omega⟩
theorem FXs.nil {k : Nat} : FXs k 0 [] := ⟨fun x hx => (nomatch hx), by rw [sumB_n]; omega⟩
theorem FXs.cons {k n m : Nat} {d : D} {l : List D} (h : FX k n d) (h2 : FXs k m l) : FXs k (n + 1 + m) (d :: l) := (FXs.one h).app h2
theorem sumB_sub {a b : List D} (h : a.Sublist b) : sumB a ≤ sumB b := by
  induction h with
  | slnil => exact Nat.le_refl _
  | cons x h ih => rw [sumB_c]; omega
  | cons_cons x h ih => rw [sumB_c, sumB_c]; omega
theorem FXs.sub {k n : Nat} {a b : List D} (h : FXs k n b) (s : a.Sublist b) : FXs k n a := ⟨fun d hd => h.1 d (s.subset hd), Nat.le_trans (sumB_sub s) h.2⟩
theorem FXs.mem {k n : Nat} {l : List D} {d : D} (h : FXs k n l) (hd : d ∈ l) : FX k n d := ⟨h.1 d hd, by
  have z := sumB_sub (List.singleton_sublist.mpr hd)
  rw [sumB_c, sumB_n] at z
  have := h.2
  omega⟩
theorem sumB_len : ∀ {l : List D}, l.length ≤ sumB l
  | [] => Nat.zero_le _
  | d :: l => by rw [sumB_c]; have := sumB_len (l := l); rw [List.length_cons]; omega
theorem FXs.len {k n : Nat} {l : List D} (h : FXs k n l) : l.length ≤ n := Nat.le_trans sumB_len h.2
theorem sumB_set : ∀ {l : List D} {i : Nat} {x : D}, sumB (l.set i x) ≤ sumB l + (blk x + 1)
  | [], i, x => by simp [sumB]
  | d :: l, 0, x => by rw [List.set_cons_zero, sumB_c, sumB_c]; omega
  | d :: l, i + 1, x => by rw [List.set_cons_succ, sumB_c, sumB_c]; have := sumB_set (l := l) (i := i) (x := x); omega
theorem FXs.set {k n m i : Nat} {l : List D} {x : D} (h : FXs k n l) (hx : FX k m x) : FXs k (n + (m + 1)) (l.set i x) := ⟨fun d hd => (List.mem_or_eq_of_mem_set hd).elim (h.1 d) (fun e => by rw [e]; exact hx.1), by have := sumB_set (l := l) (i := i) (x := x); have := h.2; have := hx.2; omega⟩
theorem cut_sub {α : Type} (l : List α) (a b : Option Int) : (cutL l a b).Sublist l := by
  unfold cutL
  exact (List.take_sublist _ _).trans (List.drop_sublist _ _)
theorem FXs.cut {k n : Nat} {l : List D} (h : FXs k n l) (a b : Option Int) : FXs k n (cutL l a b) := h.sub (cut_sub l a b)
/-! single ones -/
theorem FX.int {k n : Nat} {i : Int} (h : i.natAbs < 10 ^ 12) : FX k n (.int i) := by
  have e1 := PyData.shown_int_le h
  have h2 : i.natAbs.log2 < 1920 := by
    by_cases z : i.natAbs = 0
    · rw [z]; decide
    · rw [Nat.log2_lt z]
      exact Nat.lt_trans h (by decide)
  refine ⟨⟨by unfold D.rdy; rfl, ?_, ?_, ?_⟩, ?_⟩
  · unfold D.q PyData.showable; exact decide_eq_true h2
  · unfold D.q PyData.leavesShort; exact decide_eq_true (by omega)
  · unfold D.q PyData.depth; omega
  · unfold blk D.q PyData.bulk; omega
theorem FX.big {k n : Nat} : FX k n (.int (10 ^ 18 + 7)) := by
  refine ⟨⟨by unfold D.rdy; rfl, ?_, ?_, ?_⟩, ?_⟩
  · unfold D.q PyData.showable; exact decide_eq_true (by decide +kernel)
  · unfold D.q PyData.leavesShort; exact decide_eq_true (by decide +kernel)
  · unfold D.q PyData.depth; omega
  · unfold blk D.q PyData.bulk; omega
theorem FX.non {k n : Nat} : FX k n .non := by
  refine ⟨⟨by unfold D.rdy; rfl, ?_, ?_, ?_⟩, ?_⟩
  · unfold D.q PyData.showable; rfl
  · unfold D.q PyData.leavesShort; rfl
  · unfold D.q PyData.depth; omega
  · unfold blk D.q PyData.bulk; omega
theorem FX.bl {k n : Nat} {b : Bool} : FX k n (.bl b) := by
  refine ⟨⟨by unfold D.rdy; rfl, ?_, ?_, ?_⟩, ?_⟩
  · unfold D.q PyData.showable; rfl
  · unfold D.q PyData.leavesShort; rfl
  · unfold D.q PyData.depth; omega
  · unfold blk D.q PyData.bulk; omega
theorem FX.str {k n : Nat} {s : Str} (h : PyData.strOk s = true) (hl : s.cps.size ≤ n) : FX k n (.str s) := by
  refine ⟨⟨by unfold D.rdy; exact h, ?_, ?_, ?_⟩, ?_⟩
  · unfold D.q PyData.showable; rfl
  · unfold D.q PyData.leavesShort
    rw [List.all_eq_true]
    intro c hc
    unfold PyData.strOk at h
    rw [Array.all_eq_true_iff_forall_mem] at h
    have := of_decide_eq_true (h c (Array.mem_toList_iff.mp hc))
    exact decide_eq_true (by omega)
  · unfold D.q PyData.depth; omega
  · unfold blk D.q PyData.bulk; exact hl
theorem q_dct1 {s : Str} {d : D} : D.q (.dct [(.inr s, d)]) = .dict [(.str s, d.q)] := by simp only [D.q, qk, kq]
theorem FX.dct {k n : Nat} {s : Str} {d : D} (h : PyData.strOk s = true) (hd : FX k n d) : FX (k + 1) (n + s.cps.size + 2) (.dct [(.inr s, d)]) := by
  obtain ⟨⟨b1, b2, b3, b4⟩, b5⟩ := hd
  have hs : FX k s.cps.size (.str s) := FX.str h (Nat.le_refl _)
  obtain ⟨⟨a1, a2, a3, a4⟩, a5⟩ := hs
  have e : D.q (.str s) = .str s := by simp only [D.q]
  unfold blk at a5 b5
  rw [e] at a2 a3 a4 a5
  unfold FX okX blk
  rw [q_dct1]
  revert a2 a3 a4 a5 b2 b3 b4 b5
  generalize PyData.str s = a
  generalize d.q = b
  intro b2 b3 b4 b5 a2 a3 a4 a5
  refine ⟨⟨?_, ?_, ?_, ?_⟩, ?_⟩
  · simp only [D.rdy, rdyk, b1]; rfl
  · simp only [PyData.showable, PyData.showableKv, b3, a3]; rfl
  · simp only [PyData.leavesShort, PyData.leavesShortKv, b4, a4]; rfl
  · simp only [PyData.depth, PyData.depthKv]; omega
  · simp only [PyData.bulk, PyData.bulkKv]; omega
theorem shXX_ok {k n : Nat} {d : D} (h : FX k n d) (hk : k ≤ 60) (hn : n ≤ 160000) : ∃ s, shXX d = some s := by
  obtain ⟨⟨h1, h2, h4, h5⟩, h6⟩ := h
  unfold blk at h6
  have b := PyData.shown_le_bulk 100 (by omega) d.q h4
  have s : d.q.shown.length ≤ sizeLine := by
    have : (16777216 : Nat) = sizeLine := by decide
    have e : 102 * d.q.bulk ≤ 102 * 160000 := Nat.mul_le_mul_left _ (by omega)
    omega
  unfold shXX showsX
  rw [if_pos (by simp only [h1, h2, Bool.and_eq_true, decide_eq_true_eq, true_and]; exact ⟨by omega, s⟩)]
  exact ⟨_, rfl⟩
/-! numbers within lists -/
end RL
namespace RL
open PySem L2
theorem FXs.of {k n : Nat} : ∀ {l : List D} {m : Nat}, (∀ d ∈ l, FX k n d) → l.length ≤ m → FXs k (m * (n + 1)) l
  | [], m, _, _ => FXs.nil.mono (Nat.le_refl _) (Nat.zero_le _)
  | d :: l, m, h, hl => by
    rw [List.length_cons] at hl
    obtain ⟨m', rfl⟩ : ∃ m', m = m' + 1 := ⟨m - 1, by omega⟩
    have ih := FXs.of (l := l) (m := m') (fun x hx => h x (by simp [hx])) (by omega)
    refine (FXs.cons (h d (by simp)) ih).mono (Nat.le_refl _) ?_
    rw [Nat.add_mul, Nat.one_mul]
    omega
theorem W.tup {β : Type} {l : List D} {f : List D → Option β} {P : β → Prop} (k : W (f l) P) : W ((asTup (.tup l)).bind f) P := k
end RL
namespace RL
open PySem L2
section
variable {α β S R : Type} {f g : S → α → Option (Out S R)} {s : S} {xs : List α}
end
end RL
namespace RL
open PySem L2
theorem FXs.self {k : Nat} {l : List D} (h : ∀ d ∈ l, okX k d) : FXs k (sumB l) l := ⟨h, Nat.le_refl _⟩
theorem FX.self {k : Nat} {d : D} (h : okX k d) : FX k (blk d) d := ⟨h, Nat.le_refl _⟩
end RL

set_option maxHeartbeats 4000000
/-! RL49: x == [] of any data; sorted of numbers, tuples too; is None of any datum; a datum unpacked -/
namespace RL
open PySem L2 PySem.Spec PyProof.Rows
/-! ### nothing in a list -/
section
variable {X : Cx}
end
section
variable {X : Cx} {C : Cn} {Γ Γ1 : Ctx} {Ts : List T} {a : Expr} {pos q : Pos} {t : T} {α : Type} {enc : α → D} {xs : List α}
end
/-! ### is None -/
section
variable {X : Cx} {C : Cn} {Γ Γ1 : Ctx} {Ts : List T} {e : Expr} {pos : Pos} {d : D}
end
/-! ### sorted of numbers -/
/-! a tuple is gathered as a list is -/
section
open SrtO Srt
variable {P : Program} {w : World} {A : Around} {E : Value → Shared → Prop} {s : Shared}
end
section
variable {X : Cx} {C : Cn} {Γ Γ1 : Ctx} {Ts : List T} {e : Expr} {pos nmp : Pos} {t : T} {xs : List Int}
end
end RL

set_option maxHeartbeats 4000000
/-! RL50: any datum in a list or tuple, as a test -/
namespace RL
open PySem L2 PySem.Spec PyProof.Rows
section
variable {X : Cx} {C : Cn} {Γ Γ1 Γ2 : Ctx} {Ts : List T} {t : T} {a b : Expr} {pos : Pos} {d : D} {l : List D} {k : Bool}
end
end RL

set_option maxHeartbeats 4000000
/-! RL51: a list walked from its end; dicts of lists on their own -/
namespace RL
open PySem L2 PySem.Spec PyProof.Rows
section
variable {X : Cx} {C : Cn} {Γ Γ1 Γ2 Γ3 Γ' : Ctx} {Ts Hs : List T} {t : T} {e a b nm iter tg : Expr} {pos p : Pos} {i j : Nat} {d : D} {ds : List D} {m m1 m2 : M} {α : Type} {enc : α → D} {K : PySem.W.Frag} {H : Hp}
/-! ### dicts of lists on their own -/
/-! ### small ones -/
end
end RL

set_option maxHeartbeats 4000000
/-! RL52: errors of own classes that keep a field: super().__init__('..'), self.f = f -/
namespace RL
open PySem L2 PySem.Spec PyProof.Rows PySem.Calls
section
variable {prog : Program} {w : World} {A : Around} {R : Result → Shared → Prop} {K : PySem.W.Frag}
end
end RL

set_option maxHeartbeats 4000000
/-! RL53: such errors made and raised; what the top leaves of them -/
namespace RL
open PySem L2 PySem.Spec PyProof.Rows PySem.Calls
/-- such an __init__ as it is written -/
structure InitD where
  name : Str
  qual : Str
  params : Arguments
  body : List Stmt
  scope : Scope
abbrev InW : Type := Option (Str × Str × Arguments × FuncBody × Scope × Addr × List Str × Addr)
def InitD.val (d : InitD) : InW := some (d.name, d.qual, d.params, .stmts d.body, d.scope, mainGlobals, ["__class__"], builtinsNs)
def initW (K : PySem.W.Frag) (y : Str) : InW := match K.lookup (He.ma K (He.ga K y) "__init__") with
  | some ⟨_, _, .func fd, _⟩ => some (fd.name, fd.qualname, fd.params, fd.body, fd.scope, fd.globals, fd.closure.map (·.1), fd.builtins)
  | _ => none
def clsB (K : PySem.W.Frag) (C : Addr) : Bool := match K.lookup C with
  | some ⟨.type "type", _, .cls cd, sl⟩ => (match cd.mro, sl.toList with
    | .ref C' :: bm, [_, _, _, _, some (.builtin n), _] => C' == C && n == "ValueError.__new__" && !cd.hasDel && cd.hasDict && PySem.HandSPX.refsVE bm && decide (PySem.W.alongIn K "__init__" bm = some (some (.builtin "ValueError.__init__")))
    | _, _ => false)
  | _ => false
theorem clsB_ok {K : PySem.W.Frag} {C : Addr} (h : clsB K C = true) : ∃ nc q N bs bm sn sub ab col dd k0 k1 k2 k3 k5, K.lookup C = some (excClassObj nc q C N bs bm true sn sub ab col dd k0 k1 k2 k3 k5 "ValueError.__new__") ∧ PySem.HandSPX.refsVE bm = true ∧
    PySem.W.alongIn K "__init__" bm = some (some (.builtin "ValueError.__init__")) := by
  unfold clsB at h
  split at h
  · rename_i dd cd sl ho
    split at h
    · rename_i C' bm k0 k1 k2 k3 n k5 hm hs
      simp only [Bool.and_eq_true, beq_iff_eq, Bool.not_eq_true', decide_eq_true_eq] at h
      obtain ⟨⟨⟨⟨⟨rfl, rfl⟩, hdel⟩, hdict⟩, ht⟩, hal⟩ := h
      obtain ⟨nm, bs, mro, ns, qn, hd, sn, sub, ab, col, del⟩ := cd
      dsimp only at hm hdel hdict
      subst hm hdel hdict
      have hsl : sl = #[k0, k1, k2, k3, some (.builtin "ValueError.__new__"), k5] := by
        obtain ⟨l⟩ := sl
        simp only at hs
        rw [hs]
      subst hsl
      exact ⟨nm, qn, ns, bs, bm, sn, sub, ab, col, dd, k0, k1, k2, k3, k5, ho, ht, hal⟩
    · cases h
  · cases h
def cellB (K : PySem.W.Frag) (C fI : Addr) (fl : Str) : Bool := match K.lookup fI with
  | some ⟨_, _, .func fd, _⟩ => (match fd.closure, fd.code, fd.defaults with
    | [(_, cc)], .ref cda, .none => PySem.W.codeIn K (.ref cda) fd.qualname && (match K.lookup cda with
      | some ⟨_, _, .fields vs, _⟩ => (match (vs[2]? : Option Value) with
        | some (.str file _) => decide (file = fl)
        | _ => false)
      | _ => false) && (match K.lookup cc with
      | some ⟨_, _, .cell (some (.ref D)), _⟩ => D == C
      | _ => false)
    | _, _, _ => false)
  | _ => false
/-- what is known of a class of errors that keeps a field -/
structure SupF (P : Program) (K : PySem.W.Frag) (mg : Str → Option Value) (y f : Str) (C : Addr) (d : InitD) : Prop where
  g : mg y = some (.ref C)
  gs : mg "super" = none
  k : PySem.W.keepIn K (.ref C) = true
  cls : ∃ nc q N bs bm sn sub ab col dd k0 k1 k2 k3 k5, K.lookup C = some (excClassObj nc q C N bs bm true sn sub ab col dd k0 k1 k2 k3 k5 "ValueError.__new__") ∧ PySem.HandSPX.refsVE bm = true ∧ PySem.W.alongIn K "__init__" bm = some (some (.builtin "ValueError.__init__"))
  ini : ∃ fI cc cda oc od osl kV doc pm an ct ccl cdd vs ccs file tf cl cld csl, PySem.W.findIn K (.ref C) "__init__" = some (some (.ref fI)) ∧ PySem.W.typeIn K (.ref fI) = some (.type "function") ∧
    K.lookup fI = some ⟨oc, od, .func (PySem.W.ksFn d.name d.qual d.params d.body d.scope .none kV doc pm an (.ref cda) ct cc), osl⟩ ∧ PySem.W.codeIn K (.ref cda) d.qual = true ∧ K.lookup cda = some ⟨ccl, cdd, .fields vs, ccs⟩ ∧ vs[2]? = some (.str file tf) ∧ ((P.main.file : Str) == file) = true ∧
    K.lookup cc = some ⟨cl, cld, .cell (some (.ref C)), csl⟩
  top : (P.main.scope.names.lookup ("super" : Str)).isSome = false
  sa : PySem.W.findIn K (.ref C) "__setattr__" = some (some (.builtin "object.__setattr__"))
  no : PySem.W.findIn K (.ref C) f = some none
  th : PySem.W.nsIn K cStatics "thirdparty.any" = some none
  sub : PySem.W.mroIn K C (.ref C) = some true
  vB : PySem.W.subIn K (.ref C) (.type "ValueError") = some true
  bE : PySem.W.subIn K (.ref C) (.type "BaseException") = some true
  ty : PySem.W.typeIn K (.ref C) = some (.type "type")
/-- the same, looked at -/
def supB (y f fl : Str) (K : PySem.W.Frag) : Bool :=
  PySem.W.keepIn K (.ref (He.ga K y)) && clsB K (He.ga K y) && cellB K (He.ga K y) (He.ma K (He.ga K y) "__init__") fl && decide (PySem.W.findIn K (.ref (He.ga K y)) "__init__" = some (some (.ref (He.ma K (He.ga K y) "__init__")))) &&
  decide (PySem.W.typeIn K (.ref (He.ma K (He.ga K y) "__init__")) = some (.type "function")) && decide (PySem.W.findIn K (.ref (He.ga K y)) "__setattr__" = some (some (.builtin "object.__setattr__"))) && decide (PySem.W.findIn K (.ref (He.ga K y)) f = some none) &&
  decide (PySem.W.nsIn K cStatics "thirdparty.any" = some none) && decide (PySem.W.mroIn K (He.ga K y) (.ref (He.ga K y)) = some true) && decide (PySem.W.subIn K (.ref (He.ga K y)) (.type "ValueError") = some true) &&
  decide (PySem.W.subIn K (.ref (He.ga K y)) (.type "BaseException") = some true) && decide (PySem.W.typeIn K (.ref (He.ga K y)) = some (.type "type"))
theorem supF_ok {P : Program} {K : PySem.W.Frag} {mg : Str → Option Value} {y f fl : Str} {d : InitD} (g : mg y = some (.ref (He.ga K y))) (gs : mg "super" = none) (hw : initW K y = d.val) (h : supB y f fl K = true) (hfl : P.main.file = fl) (top : (P.main.scope.names.lookup ("super" : Str)).isSome = false) : SupF P K mg y f (He.ga K y) d := by
  unfold supB at h
  simp only [Bool.and_eq_true, decide_eq_true_eq] at h
  obtain ⟨⟨⟨⟨⟨⟨⟨⟨⟨⟨⟨h1, h2⟩, h3⟩, h4⟩, h5⟩, h6⟩, h7⟩, h8⟩, h9⟩, h10⟩, h11⟩, h12⟩ := h
  refine ⟨g, gs, h1, clsB_ok h2, ?_, top, h6, h7, h8, h9, h10, h11, h12⟩
  unfold cellB at h3
  unfold initW at hw
  split at h3
  · rename_i oc od fd osl lk
    rw [lk] at hw
    split at h3
    · rename_i x cc cda hc hcd hdf
      obtain ⟨n1, n2, n3, n4, n5, n6, n7, n8, n9, n10, n11, n12, n13, n14, n15⟩ := fd
      dsimp only at hc hcd hdf h3
      subst hc hcd hdf
      have e2 : (some (n1, n2, n3, n4, n5, n6, [x], n15) : InW) = d.val := hw
      unfold InitD.val at e2
      simp only [Option.some.injEq, Prod.mk.injEq, List.cons.injEq, and_true] at e2
      obtain ⟨q1, q2, q3, q4, q5, q6, q7, q8⟩ := e2
      subst q1 q2 q3 q4 q5 q6 q7 q8
      simp only [Bool.and_eq_true] at h3
      obtain ⟨⟨a1, a2⟩, a3⟩ := h3
      split at a2
      · rename_i ccl cdd vs ccs l2
        split at a2
        · rename_i file tf hv
          split at a3
          · rename_i cl cld D csl l3
            have a3 := beq_iff_eq.mp a3
            subst a3
            exact ⟨_, cc, cda, oc, od, osl, _, _, _, _, _, ccl, cdd, vs, ccs, file, tf, cl, cld, csl, h4, h5, lk, a1, l2, hv, by rw [hfl, of_decide_eq_true a2]; simp, l3⟩
          · cases a3
        · cases a2
      · cases a2
    · cases h3
  · cases h3
end RL

set_option maxHeartbeats 4000000
/-! RL54: raise y(e), y keeping e -/
namespace RL
open PySem L2 PySem.Spec PyProof.Rows PySem.Calls
/-- the writing of such an __init__ -/
structure InitOk (d : InitD) (f : Str) : Prop where
  s : ∃ self pl txt ar p0 p1 p2 p3 p4 p5 p6 p7 p8 p9 kk, d.body = [.Expr (.Call (.Attribute (.Call (.Name "super" p0) [] [] p1) "__init__" p2) [.Constant (.str txt) kk p3] [] p4) p5, .Assign [.Attribute (.Name self p6) f p7] (.Name pl p8) p9] ∧
    (d.params.posonlyargs ++ d.params.args).head? = some ar ∧ ar.arg = self ∧ self ≠ pl ∧ d.scope.names.lookup self = some .local ∧ d.scope.names.lookup pl = some .local ∧ (self == ("__debug__" : Str)) = false ∧ (pl == ("__debug__" : Str)) = false ∧
    (∃ plS : Addr → Addr → Addr → Addr → Sem Bool, ∀ (L fI cc cda : Addr), eval (.Call (.Attribute (.Call (.Name "super" p0) [] [] p1) "__init__" p2) [.Constant (.str txt) kk p3] [] p4) (PySem.W.ksEnv d.qual d.scope L fI (.ref cda) cc) = (do
      let ov ← attributeBase (.Call (.Name "super" p0) [] [] p1) "__init__" (PySem.W.ksEnv d.qual d.scope L fI (.ref cda) cc) (eval (.Call (.Name "super" p0) [] [] p1) (PySem.W.ksEnv d.qual d.scope L fI (.ref cda) cc))
      standAt p2.atName
      let (f, first) ← holding [ov] (getMethod ov "__init__" (plS L fI cc cda))
      callWith p4 f first (backTo p4 (starEach [.Constant (.str txt) kk p3] (PySem.W.ksEnv d.qual d.scope L fI (.ref cda) cc))) [])) ∧
    ∀ (kV doc pm ct : Value) (an : Option Addr) (cda cc : Addr) (v u : Value), bindArgs (PySem.W.ksFn d.name d.qual d.params d.body d.scope .none kV doc pm an (.ref cda) ct cc) ⟨[v, u], []⟩ = pure [(self, v), (pl, u)]
  ks : d.scope.names.lookup ("super" : Str) = some .globalImplicit
  kc : d.scope.names.lookup ("__class__" : Str) = some .free
  k : d.scope.kind = .function
  co : d.scope.isCoroutine = false
  gen : d.scope.isGenerator = false
  cl : ∀ x ∈ d.scope.names, x.2 ≠ .cell
  int : ∀ (L fI cc cda : Addr), interactive (PySem.W.ksEnv d.qual d.scope L fI (.ref cda) cc) = false
section
variable {X : Cx} {e : Expr} {te : TE} {y f : Str} {C : Addr} {d : InitD} {p pos : Pos} {k : Nat}
end
end RL

set_option maxHeartbeats 4000000
/-! RL55: such errors caught, their field read -/
namespace RL
open PySem L2 PySem.Spec PyProof.Rows PySem.Calls
section
variable {C : Cn} {Γ : Ctx} {Ts : List T} {σ : L2.St} {vs : List V} {H : Hp} {i : Nat} {v : V}
/-- a state as the beginning of another stretch -/
theorem As.rebase (h : As C Γ Ts σ vs H) : ∃ (io : FS) (mio : ∀ a, io a → Mut (H a)), As ⟨C.K, H, io, C.pin, mio⟩ Γ Ts σ vs H ∧ ∀ {Γ' : Ctx} {Ts' : List T} {σ' : L2.St} {vs' : List V} {H' : Hp}, As ⟨C.K, H, io, C.pin, mio⟩ Γ' Ts' σ' vs' H' → As C Γ' Ts' σ' vs' H' := by
  obtain ⟨fp, W⟩ := h
  refine ⟨fun a => ∃ x, fp x a, fun a ⟨x, z⟩ => W.mu x a z, ⟨fp, W.lg, W.ln, W.sl, W.tp, W.dj, fun x a z => .inl ⟨x, z⟩, W.mu, fun a o e _ => e, W.pn⟩, ?_⟩
  rintro Γ' Ts' σ' vs' H' ⟨fq, V⟩
  refine ⟨fq, V.lg, V.ln, V.sl, V.tp, V.dj, fun x a z => ?_, V.mu, fun a o e ni => ?_, V.pn⟩
  · rcases V.sn x a z with ⟨y, hy⟩ | hn
    · exact W.sn y a hy
    · by_cases q : C.io a
      · exact .inl q
      · refine .inr ?_
        cases e : C.H0 a with
        | none => rfl
        | some o =>
          have := W.fr a o e q
          rw [show H a = none from hn] at this
          cases this
  · refine V.fr a o (W.fr a o e ni) fun ⟨y, hy⟩ => ?_
    rcases W.sn y a hy with z | z
    · exact ni z
    · rw [e] at z; cases z
theorem As.frm (h : As C Γ Ts σ vs H) : Frm C.H0 C.io H := by
  obtain ⟨fp, W⟩ := h
  exact W.fr
end
section
variable {X : Cx} {C : Cn} {Hs : List T} {Γ Γx Γ' : Ctx} {i : Nat} {n x f : Str} {c : Value} {np pos pos' : Pos} {body suite : List Stmt} {b₀ : Stmt} {e : Exn} {m : M} {D : Addr} {dv : RL.D}
end
section
variable {X : Cx} {C : Cn} {Γ : Ctx} {Ts : List T} {i : Nat} {a D dd : Addr} {oe : Obj} {pn : List (Addr × Obj)} {nme : Expr} {f : Str} {p2 pos : Pos} {v : V} {dv : RL.D}
/-- slip.f -/
theorem ee_xf (Tf : XfC X.K D) (hno : PySem.W.findIn X.K (.ref D) f = some none) (hz : Zc (.ref D) (some dd) oe) (hfl : ∃ vs, oe.data = .fields vs) (hp : ∃ P, C.pin = (i, .ref a) :: P) (h0 : C.H0 dd = some (.xd [(f, v)])) (hr : rD C.K dv v C.H0)
    (hn : PE (X.suite a ((a, oe) :: pn)) nme (tVar i)) (hb : attributeBase nme f X.env (eval nme X.env) = eval nme X.env := by rfl) :
    EE (X.suite a ((a, oe) :: pn)) C Γ Ts (.Attribute nme f pos) Γ (.im dv) := (pe_xf Tf hno hz hfl hn hb).wk fun σ H Q ⟨vs, h, q⟩ => by
  obtain ⟨P, hP⟩ := hp
  have hσ : σ[i]? = some (some (.ref a)) := by
    obtain ⟨fp, W⟩ := h
    exact W.pn (i, .ref a) (by rw [hP]; exact List.mem_cons_self)
  have fr := h.frm
  have ni : ¬ C.io dd := fun z => by
    have := C.mio dd z
    rw [h0] at this
    exact this
  refine ⟨.ref a, hσ, rfl, rfl, dd, [(f, v)], v, rfl, fr dd _ h0 ni, by simp [List.lookup], q v H (h.pushIm Ext.refl (hr.tf (fr.tf C.mio)))⟩
end
end RL

set_option maxHeartbeats 4000000
/-! RL56: isinstance of a caught error that keeps a field -/
namespace RL
open PySem L2 PySem.Spec PyProof.Rows PySem.Calls PySem.W
section
variable {prog : Program} {w : World} {A : Around} {E : Value → Shared → Prop} {s : Shared} {K : Frag} {x D : Addr} {ox : Obj} {od : Option Obj}
theorem findObj_bind {a g : Value} {name : Str} (hc : (clsIn K D).isSome = true) (ha : findIn K (.ref D) name = some (some a)) (hg : specialIn K a "__get__" = some (some g)) (ht : takesIn K a = some true) : findObj K D od name = some (.bind g a) := by
  cases q : clsIn K D with
  | none => rw [q] at hc; cases hc
  | some cd => unfold findObj; rw [q, Option.bind_some, ha, Option.bind_some]; simp [hg, ht]
/-- what its class tells of __class__, whatever its dict -/
theorem cls_of {Q : Option Value → Shared → Prop} (T : ExcC K D) (X : K.In s.heap) (I : InstAt s.heap x ox D od) (h : Q (some (.ref D)) { s with toks := s.toks + 1 }) : wpAny (model prog w) A (getAttr? (.ref x) "__class__") Q E s := by
  have hf : findObj K D od "__class__" = some (.bind (.builtin "getset_descriptor.__get__") (.builtin "object.__class__")) := findObj_bind (by obtain ⟨cd, hc, _⟩ := any_some T.hd; rw [hc]; rfl) T.ha T.hn T.ht
  obtain ⟨hp, g, d, t, os⟩ := s
  have L0 := I.type (M := model prog w)
  have L3 := looks_find (M := model prog w) X I hf
  have big : (Value.builtin "BaseException.__getattribute__" == Value.builtin "object.__getattribute__") = false := by decide +kernel
  unfold getAttr? getAttrBy? getAttrBy
  refine wpAny_bind (wpAny_mkText (wpAny_bind (wpAny_attempt (wpAny_holding (wpAny_bind (L0.at (wpAny_bind ((looks_findIn (M := model prog w) X T.hg).at ?_))))))))
  show wpAny _ _ (if (onTheHeap (Value.ref D) && Value.builtin "BaseException.__getattribute__" == Value.builtin "object.__getattribute__") = true then _ else _) _ _ _
  rw [if_neg (show ¬ (onTheHeap (Value.ref D) && Value.builtin "BaseException.__getattribute__" == Value.builtin "object.__getattribute__") = true by rw [big, Bool.and_false]; exact Bool.false_ne_true)]
  unfold getAttrByItsOwn hookBefore
  refine wpAny_bind ?_
  rw [if_pos (show onTheHeap (Value.ref D) = true from rfl)]
  refine (looks_findIn (M := model prog w) X T.hk).at ?_
  refine wpAny_bind (wpAny_attempt (wpAny_holding ?_))
  unfold callGetattribute
  rw [if_neg (show ¬ (false && onTheHeap (Value.builtin "BaseException.__getattribute__")) = true from Bool.false_ne_true)]
  unfold boundAndCalled
  rw [PySem.F.excAttr_ValueError.ga.bind (.ref x)]
  refine wpAny_bind (wpAny_pure ?_)
  show wpAny _ _ (call (.builtin "BaseException.__getattribute__") [.ref x, .str "__class__" t]) _ _ _
  refine wpAny_call (codeAny_call_builtin PySem.F.excAttr_ValueError.ga.plain PySem.F.entry_bexc_ga ?_)
  refine @check_slot (model prog w) _ _ ⟨hp, g, d, t + 1, os⟩ "BaseException.__getattribute__" "BaseException" "__getattribute__" (.ref x) [.str "__class__" t] [] _ (by decide +kernel) (by decide +kernel) (L0.andThen (looks_subIn X T.hs)) (PySem.F.args_bexc_ga (.ref x) (.str "__class__" t)) ?_
  unfold Builtin.«object.__getattribute__»
  refine wpAny_bind (wpAny_of_eq (a := ((Value.ref x : Value), [Value.str "__class__" t])) (by first | rfl | (simp only [slotArgs]; rfl)) ?_)
  refine wpAny_bind (wpAny_pure (wpAny_bind (L0.at (wpAny_bind (L3.at ?_)))))
  show wpAny _ _ (holding [Value.builtin "object.__class__"] (call (.builtin "getset_descriptor.__get__") [.builtin "object.__class__", .ref x, .ref D]) >>= ret) _ _ _
  refine wpAny_bind (wpAny_holding (wpAny_call (class_get (s := ⟨hp, g, d, t + 1, os⟩) (ox := ox) (od := od) X I T.hm ?_)))
  refine wpAny_pure ?_
  show wpAny _ _ (handedOut (.ref D)) _ _ _
  rw [handedOut_of (v := .ref D) rfl]
  first
    | exact wpAny_pure (wpAny_pure h)
    | exact wpAny_pure h
    | exact wpAny_pure (wpAny_bind (wpAny_pure (wpAny_pure h)))
theorem kitx_of (T : ExcC K D) : KitX K (.ref x) (.ref D) (fun h => ∃ od, InstAt h x ox D od) where
  ty := fun _ _ _ ⟨_, I⟩ => I.type
  it := fun M h X _ => (handS_kitx_exc (x := x) (ox := { ox with dict := none }) T.hg T.hk T.hs T.hd T.ha T.hn T.ht T.hm).it M h X |> fun q => by
    obtain ⟨cdD, hcD, _⟩ := any_some T.hd
    unfold clsIn at hcD
    split at hcD
    · rename_i c' d' cd' sl' ho
      intro A' Q' E' s' k q
      unfold isType loadHead
      exact wpAny_bind (wpAny_loadPart (k _ _ (X _ _ ho)) (wpAny_pure q))
    · cases hcD
  ne := (handS_kitx_exc (x := x) (ox := ox) T.hg T.hk T.hs T.hd T.ha T.hn T.ht T.hm).ne
  ca := fun X ⟨_, I⟩ k => cls_of T X I k
end
theorem call_isF {X : Cx} {a D dd : Addr} {oe : Obj} {pn : List (Addr × Obj)} {f : Str} {fs : List (Str × V)} (T : ExcC X.K D) (hz : Zc (.ref D) (some dd) oe) (hf : ∃ vs, oe.data = .fields vs) : CallR (X.suite a ((a, oe) :: pn)) (.builtin "isinstance") (fun xs H Q => H dd = some (.xd fs) ∧ rIsE X.K D a xs H Q) := by
  intro pins s σ H xs us Q I r ⟨hdd, h⟩
  obtain ⟨c, cv, b, rfl, hcv, e, q⟩ := h
  cases r with
  | cons rx rr =>
    cases rr with
    | cons rt rr =>
      cases rr
      cases rx
      have ec := hcv _ rt
      subst ec
      obtain ⟨hget, _⟩ := I.pin (a, oe) (List.mem_append.mpr (.inl List.mem_cons_self))
      obtain ⟨vs, hv⟩ := hf
      have hx : ObjOk X.prog X.w H s.heap dd (.xd fs) := I.hok dd _ hdd
      obtain ⟨mA, hns, _⟩ := hx
      obtain ⟨od, ho, _⟩ := lookIn_ns hns
      have J : PySem.W.InstAt s.heap a oe D (some od) := by
        obtain ⟨oc, od', oda, osl⟩ := oe
        obtain ⟨h1, h2⟩ := hz
        dsimp only at h1 h2 hv
        subst h1 h2 hv
        exact ⟨hget, rfl, rfl, ho⟩
      exact PySem.W.kia_one (kitx_of (ox := oe) T) I.kIn ⟨_, J⟩ e (fun z => nomatch z) fun tk => ⟨.bl b, H, I.kept (t' := tk) fun _ _ z => z, rfl, q⟩
section
variable {X : Cx} {C : Cn} {Γ : Ctx} {Ts : List T} {i : Nat} {a D Y dd : Addr} {oe : Obj} {pn : List (Addr × Obj)} {nme : Expr} {y f : Str} {p p2 pos : Pos} {b : Bool} {v : V} {dv : RL.D}
theorem ee_isExnF (T : ExcC X.K D) (hz : Zc (.ref D) (some dd) oe) (hf : ∃ vs, oe.data = .fields vs) (hpn : ∃ P, C.pin = (i, .ref a) :: P) (h0 : C.H0 dd = some (.xd [(f, v)])) (hm : X.mg "isinstance" = none) (hn : PE (X.suite a ((a, oe) :: pn)) nme (tVar i)) (hY : X.mg y = some (.ref Y)) (kit : PySem.W.kitOne X.K (.ref D) (.ref Y) = some b)
    (hg : Gl X "isinstance" := by rfl) (hgy : Gl X y := by rfl) (hdb : (y == ("__debug__" : Str)) = false := by decide)
    (he : starEach [nme, .Name y p2] X.env = (false, eval nme X.env) :: starEach [.Name y p2] X.env := by rfl) (heb : starEach [.Name y p2] X.env = (false, eval (.Name y p2) X.env) :: starEach [] X.env := by rfl) (hpl : (backTo pos (starEach [.Name y p2] X.env)).any (·.1) = false := by rfl) :
    EE (X.suite a ((a, oe) :: pn)) C Γ Ts (.Call (.Name "isinstance" p) [nme, .Name y p2] [] pos) Γ (.im (.bl b)) := by
  have e2 : PE (X.suite a ((a, oe) :: pn)) (.Name y p2) (tC (.ref Y)) := pe_glob hgy hY rfl hdb
  refine (pe_callB (call_isF (f := f) (fs := [(f, v)]) T hz hf) hg hm (by decide +kernel) (pa_cons hn (pa_cons e2 pa_nil heb) he) (by decide) (by decide) he hpl).wk fun σ H Q ⟨vs, h, q⟩ => ?_
  obtain ⟨P, hP⟩ := hpn
  have hσ : σ[i]? = some (some (.ref a)) := by
    obtain ⟨fp, W⟩ := h
    exact W.pn (i, .ref a) (by rw [hP]; exact List.mem_cons_self)
  have ni : ¬ C.io dd := fun z => by
    have := C.mio dd z
    rw [h0] at this
    exact this
  refine ⟨.ref a, hσ, h.frm dd _ h0 ni, ?_⟩
  refine ⟨.ref Y, .ref Y, b, rfl, fun u r => r, kit, q _ H (h.pushIm Ext.refl (by unfold rD; rfl))⟩
end
end RL

set_option maxHeartbeats 4000000
/-! RL57: try with errors that keep a field; what the top leaves of their classes -/
namespace RL
open PySem L2 PySem.Spec PyProof.Rows
/-- the j-th statement of a class -/
def clsStmt (s : Stmt) (j : Nat) : Stmt := match s with
  | .ClassDef _ _ _ b _ _ _ _ _ _ _ => b.getD j (.Pass ⟨0, 0, 0, 0⟩)
  | s => s
def fldOf (f : Str) (x : Exn) : Option D := match x.fld with
  | some (g, d) => if g = f then some d else none
  | none => none
theorem fldOf_eq {f : Str} {x : Exn} {d : D} (h : fldOf f x = some d) : x.fld = some (f, d) := by
  unfold fldOf at h
  cases q : x.fld with
  | none => rw [q] at h; cases h
  | some p =>
    obtain ⟨g, d'⟩ := p
    rw [q] at h
    by_cases z : g = f
    · have h : (if g = f then some d' else none) = some d := h
      rw [if_pos z] at h
      cases h
      rw [z]
    · have h : (if g = f then some d' else none) = some d := h
      rw [if_neg z] at h
      cases h
section
variable {X : Cx} {C : Cn} {Hs : List T} {Γ Γx : Ctx} {i : Nat} {n x f : Str} {c : Value} {np pos pos' : Pos} {body suite : List Stmt} {b₀ : Stmt} {m : M} {R : Type} {p : Except Exn R} {g : R → M}
theorem names_ofS {y f : Str} {C : Addr} {d : InitD} (F : SupF X.prog X.K X.mg y f C d) (hg : Gl X y := by rfl) (hdb : (y == ("__debug__" : Str)) = false := by decide) : Names X y (.ref C) := ⟨hg, hdb, .inl F.g⟩
end
/-! ### what the top leaves -/
abbrev AlS : Type := (Bool × He.AlD) × List InW
def obsSI (z : PySem.W.Frag → Bool) (iz : List (Str × InitD)) (fa : List He.Fa) (fn : List He.DefD) (K : PySem.W.Frag) : AlS := (obsZ z fa fn K, iz.map fun p => initW K p.1)
def valSI (iz : List (Str × InitD)) (fn : List He.DefD) : AlS := ((true, He.valD fn), iz.map fun p => p.2.val)
def SaysSI (z : PySem.W.Frag → Bool) (iz : List (Str × InitD)) (fa : List He.Fa) (fn : List He.DefD) (K : PySem.W.Frag) : Prop := obsSI z iz fa fn K = valSI iz fn
section
variable {z : PySem.W.Frag → Bool} {iz : List (Str × InitD)} {fa : List He.Fa} {fn : List He.DefD} {K : PySem.W.Frag}
theorem SaysSI.y (c : SaysSI z iz fa fn K) : SaysZ z fa fn K := congrArg (fun q : AlS => q.1) c
theorem SaysSI.ini (c : SaysSI z iz fa fn K) (n : Nat) {y : Str} {d : InitD} (h : iz[n]? = some (y, d) := by rfl) : initW K y = d.val := by
  have e : iz.map (fun p => initW K p.1) = iz.map fun p => p.2.val := congrArg (fun q : AlS => q.2) c
  have e2 := congrArg (fun l => l[n]?) e
  simpa [List.getElem?_map, h] using e2
end
end RL

set_option maxHeartbeats 4000000
/-! RL58: loops within which something is raised -/
namespace RL
open PySem L2 PySem.Spec PyProof.Rows
def Out.ox {S R : Type} (Γs : S → Ctx) (ρ : R → Ctx × M) (Γe : Ctx) : Out S (Except Exn R) → OX
  | .nx s => .en (.nx (Γs s))
  | .bk s => .en (.bk (Γs s))
  | .ct s => .en (.ct (Γs s))
  | .rt (.ok r) => .en (.rt (ρ r).1 (ρ r).2)
  | .rt (.error e) => .ex Γe e
def srX (mg : Str → Option Value) (C : Cn) (W : WX) (Hs : List T) (Γ : Ctx) : OX → TS
  | .en o => sr C Hs Γ o
  | .ex Γ' e => fun _ σ H => xrd mg C Hs Γ Γ' W e σ H
section
variable {X : Cx} {mg : Str → Option Value} {C : Cn} {W : WX} {Hs : List T} {Γ : Ctx} {tg iter : Expr} {body sts : List Stmt} {pos : Pos} {S α R : Type} {s0 : S} {Γs : S → Ctx} {ρ : R → Ctx × M} {Γe : Ctx} {o : OX}
theorem SG.ps (h : SG X mg C W Hs Γ sts o) : PSs X sts (srX mg C W Hs Γ o) := by
  cases o with
  | en o => exact h
  | ex Γ' e => exact h
theorem S1G.of {st : Stmt} (h : PS X st (srX mg C W Hs Γ o)) : S1G X mg C W Hs Γ st o := by
  cases o with
  | en o => exact h
  | ex Γ' e => exact h
end
end RL

set_option maxHeartbeats 4000000
/-! RL59: texts are walked -/
namespace RL
open PySem L2 PySem.Spec PyProof.Rows
def sgn (c : Nat) : Str := ⟨#[c]⟩
/-- a text, sign by sign -/
def signs (z : Str) : List Str := z.cps.toList.map sgn
section
variable {P : Program} {w : World} {A : Around} {E : Value → Shared → Prop} {s : Shared}
end
section
variable {X : Cx} {C : Cn} {Γ Γ1 Γ2 : Ctx} {Hs Ts : List T} {a b e tg iter : Expr} {z z2 : Str} {pos p : Pos} {n m : Int}
end
end RL

set_option maxHeartbeats 4000000
/-! RL60: texts joined, cut, repeated, asked -/
namespace RL
open PySem L2 PySem.Spec PyProof.Rows
section
variable {X : Cx}
end
section
variable {X : Cx} {C : Cn} {Γ Γ1 Γ2 Γ3 : Ctx} {Hs Ts : List T} {t : T} {a b e : Expr} {z z2 : Str} {pos p p2 apos : Pos} {n m : Int} {α : Type} {enc : α → D} {xs : List α} {ys : List Str}
end
end RL

set_option maxHeartbeats 4000000
/-! RL61: index of a text -/
namespace RL
open PySem L2 PySem.Spec PyProof.Rows
section
variable {X : Cx} {C : Cn} {Γ Γ1 Γ2 : Ctx} {Ts : List T} {a e : Expr} {z z2 : Str} {pos apos : Pos} {n : Int}
end
end RL

set_option maxHeartbeats 4000000
/-! RL62: enumerate over a zip of two: zip's own tuple may be held by enumerate's -/
namespace RL
open PySem L2 PySem.W
section
variable {prog : Program} {w : World} {A : Around} {E : Value → Shared → Prop} {s : Shared} {z TI TO i1 i2 : Addr} {fp1 fp2 : List Addr} {n1 n2 i : Nat} {P1 P2 : Nat → Value → Prop} {St1 St2 : Nat → Heap → Prop}
abbrev ZipAt (h : Heap) (z TI TO : Addr) (f0 : Value) (b : Bool) : Prop :=
  h.get? z = some { cls := .type "zip", dict := none, data := .fields #[f0, .bool b, .bool false, .ref TI, .ref TO], slots := #[] }
def ZipSt (h : Heap) (z TI TO : Addr) : Prop := ∃ f0 b, ZipAt h z TI TO f0 b ∧ (f0 = .none ∨ ∃ T : Nat, f0 = rawInt T)
/-! ### enumerate, whatever it walks -/
end
end RL

set_option maxHeartbeats 4000000
/-! RL63: enumerate(zip(a tuple, a list)) -/
namespace RL
open PySem L2 PySem.W PySem.Spec PyProof.Rows
/-- where all of it lies -/
structure EzAt (e z TI TO i1 i2 a c : Addr) : Prop where
  Z : ZipApart z TI TO i1 i2 a c
  ez : e ≠ z
  eI : e ≠ TI
  eO : e ≠ TO
  e1 : e ≠ i1
  e2 : e ≠ i2
  ea : e ≠ a
  ec : e ≠ c
  a2 : a ≠ i2
  c1 : c ≠ i1
section
variable {P : Program} {w : World} {K : PySem.W.Frag} {elts : List Expr} {kk : Nat} {tpos : Pos} {e z TI TO i1 i2 a c : Addr}
def ezTn (e z TI TO i1 i2 a c : Addr) (i : Nat) (h : Heap) : Prop :=
  (∃ old, IsEnum h e z ((i : Nat) : Int) old) ∧ ZipSt h z TI TO ∧ IsTupOf2 h TI (.ref i1) (.ref i2) ∧ (∃ x y, IsTupOf2 h TO x y) ∧ h.IsTupleIter i1 a i ∧ h.IsListIter i2 c i
theorem ez_cases {b : Addr} (hb : b ∈ [e, z, TI, TO, i1, i2]) : b = e ∨ b = z ∨ b = TI ∨ b = TO ∨ b = i1 ∨ b = i2 := by simpa using hb
theorem ezTn.at {i : Nat} {h : Heap} (st : ezTn e z TI TO i1 i2 a c i h) {b : Addr} (hb : b ∈ [e, z, TI, TO, i1, i2]) : ∃ o, h.get? b = some o ∧ ∀ v, o.data ≠ .cell v := by
  obtain ⟨⟨old, he⟩, ⟨f0, fb, hz, _⟩, hTI, ⟨x, y, hTO⟩, ⟨o1, q1, _, d1⟩, ⟨o2, q2, _, d2⟩⟩ := st
  rcases ez_cases hb with q | q | q | q | q | q
  · rw [q]; exact ⟨_, he, fun v q => nomatch q⟩
  · rw [q]; exact ⟨_, hz, fun v q => nomatch q⟩
  · rw [q]; exact ⟨_, hTI, fun v q => nomatch q⟩
  · rw [q]; exact ⟨_, hTO, fun v q => nomatch q⟩
  · rw [q]; exact ⟨o1, q1, fun v q => by rw [d1] at q; cases q⟩
  · rw [q]; exact ⟨o2, q2, fun v q => by rw [d2] at q; cases q⟩
theorem ZipSt.mono {h h' : Heap} (hz : ZipSt h z TI TO) (k : ∀ o, h.get? z = some o → h'.get? z = some o) : ZipSt h' z TI TO := by
  obtain ⟨f0, fb, q, r⟩ := hz
  exact ⟨f0, fb, k _ q, r⟩
theorem ezTn.keep {i : Nat} {h h' : Heap} (st : ezTn e z TI TO i1 i2 a c i h) (k : ∀ b ∈ [e, z, TI, TO, i1, i2], ∀ o, h.get? b = some o → h'.get? b = some o) : ezTn e z TI TO i1 i2 a c i h' := by
  obtain ⟨⟨old, he⟩, hz, hTI, ⟨x, y, hTO⟩, h1, h2⟩ := st
  exact ⟨⟨old, k e (by simp) _ he⟩, hz.mono fun o q => k z (by simp) o q, k TI (by simp) _ hTI, ⟨x, y, k TO (by simp) _ hTO⟩, h1.at fun o q => k i1 (by simp) o q, h2.at fun o q => k i2 (by simp) o q⟩
end
end RL

set_option maxHeartbeats 4000000
/-! RL64: enumerate(zip(a tuple, a list)) begins, and is walked -/
namespace RL
open PySem L2 PySem.W PySem.Spec PyProof.Rows
open PySem.AutoSeq1 (wpAny_loadPart')
section
variable {P : Program} {w : World} {A : Around} {E : Value → Shared → Prop} {s : Shared}
end
/-! ### in the layer -/
def ZPL (K : PySem.W.Frag) (ds es : List D) (v : V) (H : Hp) : Prop := ∃ (a b : Addr) (us ws : List V), v = .str ⟨#[a, b]⟩ ∧ SqT K H a us ∧ FzL K H b ws ∧ rDs K ds us H ∧ rDs K es ws H
theorem ZPL.st {K : PySem.W.Frag} {ds es : List D} {v : V} : ∀ H H', TF H H' → ZPL K ds es v H → ZPL K ds es v H' := fun H H' t ⟨a, b, us, ws, e, h1, h2, h3, h4⟩ => ⟨a, b, us, ws, e, t.sqt h1, t.fzl h2, h3.tf t, h4.tf t⟩
section
variable {X : Cx} {C : Cn} {Γ Γ1 Γ2 : Ctx} {Hs : List T} {a b : Expr} {p p2 pos pos2 tpos : Pos} {α β : Type} {f : α → D} {g : β → D} {xs : List α} {ys : List β}
end
end RL

set_option maxHeartbeats 4000000
/-! RL65: is some datum the same as a plain one without truths? -/
namespace RL
open PySem L2 PySem.Spec PyProof.Rows
mutual
/-- plain data without truths, of a bounded depth -/
def D.pn : Nat → D → Bool
  | _, .non => true
  | _, .int _ => true
  | _, .str _ => true
  | 0, .tup _ => false
  | n + 1, .tup l => pns n l
  | _, _ => false
def pns : Nat → List D → Bool
  | _, [] => true
  | n, d :: l => D.pn n d && pns n l
end
end RL

set_option maxHeartbeats 4000000
/-! RL66: lists put together, locked ones too -/
namespace RL
open PySem L2 PySem.Spec PyProof.Rows
section
variable {X : Cx} {C : Cn} {Γ Γ1 Γ2 : Ctx} {Ts : List T} {a b : Expr} {pos : Pos} {t1 t2 : T} {ds ds' : List D} {α : Type} {enc : α → D} {xs ys : List α}
end
end RL

set_option maxHeartbeats 4000000
/-! RL67: zip of two and of three, tuples and lists in any mix -/
namespace RL
open PySem L2 PySem.W PySem.Spec PyProof.Rows
inductive SK where
  | t | l
def SqK (K : PySem.W.Frag) (k : SK) (H : Hp) (a : Addr) (xs : List V) : Prop := match k with
  | .t => SqT K H a xs
  | .l => SqL K H a xs
def ItK (k : SK) (h : Heap) (it a : Addr) (i : Nat) : Prop := match k with
  | .t => h.IsTupleIter it a i
  | .l => h.IsListIter it a i
theorem ItK.at {k : SK} {h h' : Heap} {it a : Addr} {i : Nat} (x : ItK k h it a i) (q : ∀ o, h.get? it = some o → h'.get? it = some o) : ItK k h' it a i := by
  cases k
  · exact Heap.IsTupleIter.at x q
  · exact Heap.IsListIter.at x q
theorem ItK.obj {k : SK} {h : Heap} {it a : Addr} {i : Nat} (x : ItK k h it a i) : ∃ o, h.get? it = some o ∧ ∀ v, o.data ≠ .cell v := by
  cases k
  all_goals
    obtain ⟨o, q, _, d⟩ := x
    exact ⟨o, q, fun v z => by rw [d] at z; cases z⟩
section
variable {X : Cx} {pins : List (Addr × Obj)} {σ : L2.St} {H : Hp} {s : Shared} {xs ys : List V} {a it : Addr} {k : SK}
end
/-! ### two -/
/-! ### three -/
end RL

set_option maxHeartbeats 4000000
/-! RL68: zip of two and of three in the layer -/
namespace RL
open PySem L2 PySem.W PySem.Spec PyProof.Rows
def FzK (K : PySem.W.Frag) (k : SK) (H : Hp) (a : Addr) (xs : List V) : Prop := match k with
  | .t => SqT K H a xs
  | .l => FzL K H a xs
theorem FzK.tf {K : PySem.W.Frag} {k : SK} {H H' : Hp} {a : Addr} {xs : List V} (t : TF H H') (h : FzK K k H a xs) : FzK K k H' a xs := by
  cases k
  · exact t.sqt h
  · exact t.fzl h
theorem FzK.sq {K : PySem.W.Frag} {k : SK} {H : Hp} {a : Addr} {xs : List V} (h : FzK K k H a xs) : SqK K k H a xs := by
  cases k
  · exact h
  · exact FzL.sq h
def ZK2 (K : PySem.W.Frag) (k1 k2 : SK) (ds es : List D) (v : V) (H : Hp) : Prop := ∃ (a b : Addr) (us ws : List V), v = .str ⟨#[a, b]⟩ ∧ FzK K k1 H a us ∧ FzK K k2 H b ws ∧ rDs K ds us H ∧ rDs K es ws H
theorem ZK2.st {K : PySem.W.Frag} {k1 k2 : SK} {ds es : List D} {v : V} : ∀ H H', TF H H' → ZK2 K k1 k2 ds es v H → ZK2 K k1 k2 ds es v H' := fun H H' t ⟨a, b, us, ws, e, h1, h2, h3, h4⟩ => ⟨a, b, us, ws, e, h1.tf t, h2.tf t, h3.tf t, h4.tf t⟩
def hz2 (K : PySem.W.Frag) (k1 k2 : SK) (ds es : List D) (v : V) : T := .hip v (ZK2 K k1 k2 ds es v) ZK2.st
def ZK3 (K : PySem.W.Frag) (k1 k2 k3 : SK) (ds es fs : List D) (v : V) (H : Hp) : Prop := ∃ (a b c : Addr) (us ws zs : List V), v = .str ⟨#[a, b, c]⟩ ∧ FzK K k1 H a us ∧ FzK K k2 H b ws ∧ FzK K k3 H c zs ∧ rDs K ds us H ∧ rDs K es ws H ∧ rDs K fs zs H
theorem ZK3.st {K : PySem.W.Frag} {k1 k2 k3 : SK} {ds es fs : List D} {v : V} : ∀ H H', TF H H' → ZK3 K k1 k2 k3 ds es fs v H → ZK3 K k1 k2 k3 ds es fs v H' := fun H H' t ⟨a, b, c, us, ws, zs, e, h1, h2, h3, h4, h5, h6⟩ => ⟨a, b, c, us, ws, zs, e, h1.tf t, h2.tf t, h3.tf t, h4.tf t, h5.tf t, h6.tf t⟩
def hz3 (K : PySem.W.Frag) (k1 k2 k3 : SK) (ds es fs : List D) (v : V) : T := .hip v (ZK3 K k1 k2 k3 ds es fs v) ZK3.st
section
variable {X : Cx} {C : Cn} {Γ Γ1 Γ2 Γ3 : Ctx} {Hs : List T} {a b c : Expr} {p pos tpos : Pos} {α β γ : Type} {f : α → D} {g : β → D} {e3 : γ → D} {xs : List α} {ys : List β} {zs : List γ} {k1 k2 k3 : SK}
end
end RL

set_option maxHeartbeats 4000000
/-! RL69: more places where something raises: tuple(..), unpacking, what a loop walks -/
namespace RL
open PySem L2 PySem.Spec PyProof.Rows
section
variable {X : Cx} {mg : Str → Option Value} {C : Cn} {W : WX} {Hs : List T} {Γ Γ' : Ctx} {Ts : List T} {a e tg : Expr} {pos p p2 nm : Pos} {body : List Stmt} {x : Exn}
end
end RL

set_option maxHeartbeats 4000000
/-! RL70: a list that may change, many times -/
namespace RL
open PySem L2 PySem.Spec PyProof.Rows
section
variable {X : Cx} {C : Cn} {Γ Γ1 Γ2 : Ctx} {Ts : List T} {a b : Expr} {pos : Pos} {t1 : T} {α : Type} {enc : α → D} {xs : List α}
end
end RL

set_option maxHeartbeats 4000000
/-! RL71: four read as typed ones; typed ones read back -/
namespace RL
open PySem L2 PySem.Spec PyProof.Rows
section
variable {α β γ δ : Type} {g1 : D → Option α} {g2 : D → Option β} {g3 : D → Option γ} {g4 : D → Option δ} {f1 : α → D} {f2 : β → D} {f3 : γ → D} {f4 : δ → D}
end
end RL

set_option maxHeartbeats 4000000
/-! RL72: texts split, parted -/
namespace RL
open PySem L2 PySem.Spec PyProof.Rows
section
variable {X : Cx} {C : Cn} {Γ Γ1 Γ2 : Ctx} {Ts : List T} {a e : Expr} {z z2 : Str} {pos apos : Pos}
end
end RL

set_option maxHeartbeats 4000000
/-! RL73: sorted of data that are alike -/
namespace RL
open PySem L2 PySem.Spec PyProof.Rows
open PySem.W (AllAlike Sortable EachIs dataLe alike alikeAll sortVals dataKind SortsAt sortingHeap copyHeap copyHeap_at list_sort_vals sorting_copy_old sortVals_data sortVals_length each_map bound_map sorted_data)
section
open SrtO Srt
variable {P : Program} {w : World} {A : Around} {E : Value → Shared → Prop} {s : Shared} {β : Type} {R : Value → β → Prop} {enc : β → PyData} {vs : List Value} {bs : List β}
end
/-! ### by type -/
section
variable {α β γ δ : Type} {f : α → D} {g : β → D} {e : γ → D} {f4 : δ → D}
end
section
variable {X : Cx} {C : Cn} {Γ Γ1 : Ctx} {Ts : List T} {e : Expr} {pos nmp : Pos} {t : T} {α : Type} {f : α → D} {xs : List α} {k : Nat}
end
end RL

set_option maxHeartbeats 4000000
/-! RL74: places that are computed, as targets -/
namespace RL
open PySem L2 PySem.Spec PyProof.Rows
section
variable {X : Cx} {C : Cn} {Γ : Ctx} {a b : Expr} {pos : Pos} {ds : List D} {d : D} {n m : Int} {α : Type} {enc : α → D} {xs : List α} {x : α}
end
end RL

set_option maxHeartbeats 4000000
/-! RL75: a text as a list of its signs -/
namespace RL
open PySem L2 PySem.Spec PyProof.Rows
/-! a list made longer by a locked one, or by a tuple -/
open PySem.AutoSeq1 in
section
variable {X : Cx} {C : Cn} {Γ Γ1 : Ctx} {Ts : List T} {e nme : Expr} {t : T} {apos cpos : Pos} {α : Type} {enc : α → D} {xs ys : List α} {ds' : List D}
end
section
variable {X : Cx} {C : Cn} {Γ Γ1 : Ctx} {Ts : List T} {e : Expr} {z : Str} {pos nmp : Pos}
end
end RL

set_option maxHeartbeats 4000000
/-! RL76: dicts of texts that the module keeps -/
namespace RL
open PySem L2 PySem.Spec PyProof.Rows
abbrev TabW : Type := List (Option (List (Option (Str × Int))))
def tabsW (ts : List (Str × List (Str × Str))) (K : PySem.W.Frag) : TabW := ts.map fun t => He.dicW K (He.ga K t.1)
def tabsV (ts : List (Str × List (Str × Str))) (w : World) : TabW := ts.map fun t => some (He.keysIn w.params (t.2.map fun q => q.1))
abbrev AlST : Type := AlS × TabW
def obsST (z : PySem.W.Frag → Bool) (iz : List (Str × InitD)) (ts : List (Str × List (Str × Str))) (fa : List He.Fa) (fn : List He.DefD) (K : PySem.W.Frag) : AlST := (obsSI z iz fa fn K, tabsW ts K)
def valST (iz : List (Str × InitD)) (ts : List (Str × List (Str × Str))) (fn : List He.DefD) (w : World) : AlST := (valSI iz fn, tabsV ts w)
def SaysST (z : PySem.W.Frag → Bool) (iz : List (Str × InitD)) (ts : List (Str × List (Str × Str))) (fa : List He.Fa) (fn : List He.DefD) (w : World) (K : PySem.W.Frag) : Prop := obsST z iz ts fa fn K = valST iz ts fn w
section
variable {z : PySem.W.Frag → Bool} {iz : List (Str × InitD)} {ts : List (Str × List (Str × Str))} {fa : List He.Fa} {fn : List He.DefD} {w : World} {K : PySem.W.Frag}
theorem SaysST.s (c : SaysST z iz ts fa fn w K) : SaysSI z iz fa fn K := congrArg (fun q : AlST => q.1) c
theorem SaysST.tab (c : SaysST z iz ts fa fn w K) (i : Nat) {x : Str} {kvs : List (Str × Str)} (h : ts[i]? = some (x, kvs) := by rfl) : ∃ es n, KDict K w (He.ga K x) es n := by
  have e : tabsW ts K = tabsV ts w := congrArg (fun q : AlST => q.2) c
  have e2 := congrArg (fun l : TabW => l[i]?) e
  unfold tabsW tabsV at e2
  simp only [List.getElem?_map, h, Option.map_some] at e2
  exact He.dicW_ok (Option.some.inj e2)
end
section
variable {X : Cx} {C : Cn} {Γ Γ1 : Ctx} {Ts : List T} {e : Expr} {x z v : Str} {pos p : Pos} {kvs : List (Str × Str)}
end
end RL

set_option maxHeartbeats 4000000
/-! RL77: defs that raise or fall off their end -/
namespace RL
open PySem L2 PySem.Spec PyProof.Rows
end RL

set_option maxHeartbeats 4000000
/-! RL78: signs of texts by place -/
namespace RL
open PySem L2 PySem.Spec PyProof.Rows
section
variable {X : Cx} {C : Cn} {Γ Γ1 Γ2 : Ctx} {Ts : List T} {a b : Expr} {z x : Str} {n : Int} {pos : Pos}
end
end RL

set_option maxHeartbeats 4000000
/-! RL79: try with several clauses, with names or without -/
namespace RL
open PySem L2 PySem.Spec PyProof.Rows
/-- one clause: its class, the slot of its name, what its suite comes to -/
structure Cl where
  c : Value
  j : Option Nat
  ts : Addr → Value → Option Addr → TS
/-- how the suite ends, its name gone -/
def Cl.ends (k : Cl) (D : Ends) : Ends := match k.j with
  | none => D
  | some i => { nx := fun σ' H' => D.nx (σ'.set i none) H', rt := D.rt, bk := fun σ' H' => D.bk (σ'.set i none) H', ct := fun σ' H' => D.ct (σ'.set i none) H' }
def Cl.sig (k : Cl) (σ : L2.St) (a : Addr) : L2.St := match k.j with
  | none => σ
  | some i => σ.set i (some (.ref a))
/-- what the clauses wish of an error of the body, one behind another -/
def wCls (K : PySem.W.Frag) (Wout : WX) (D : Ends) : List Cl → WX
  | [] => Wout
  | k :: r => fun cls d σ H => ∃ b, PySem.W.exmOne K cls k.c = some b ∧ (b = true → ∀ a, H a = none → k.ts a cls d (k.ends D) (k.sig σ a) H) ∧ (b = false → wCls K Wout D r cls d σ H)
inductive ClsOk (X : Cx) : List ExceptHandler → List Cl → Prop
  | nil : ClsOk X [] []
  | only {x : Str} {c : Value} {ts : Addr → Value → Option Addr → TS} {b₀ : Stmt} {suite : List Stmt} {np pos' : Pos} {hds : List ExceptHandler} {l : List Cl} (hc : Names X x c)
      (hsu : ∀ (a : Addr) (oe : Obj) (cls : Value) (d : Option Addr) (pn : List (Addr × Obj)), Zc cls d oe → (∃ vs, oe.data = .fields vs) → PSs (X.suite a ((a, oe) :: pn)) (b₀ :: suite) (ts a cls d)) (r : ClsOk X hds l) :
      ClsOk X (.ExceptHandler (some (.Name x np)) none (b₀ :: suite) pos' :: hds) (⟨c, none, ts⟩ :: l)
  | named {x n : Str} {i : Nat} {c : Value} {ts : Addr → Value → Option Addr → TS} {b₀ : Stmt} {suite : List Stmt} {np pos' : Pos} {hds : List ExceptHandler} {l : List Cl} (hi : X.N[i]? = some n) (hln : X.env.kindOf n = some .local) (hc : Names X x c)
      (hsu : ∀ (a : Addr) (oe : Obj) (cls : Value) (d : Option Addr) (pn : List (Addr × Obj)), Zc cls d oe → (∃ vs, oe.data = .fields vs) → PSs (X.suite a ((a, oe) :: pn)) (b₀ :: suite) (ts a cls d)) (r : ClsOk X hds l) :
      ClsOk X (.ExceptHandler (some (.Name x np)) (some n) (b₀ :: suite) pos' :: hds) (⟨c, some i, ts⟩ :: l)
section
variable {X : Cx} {body : List Stmt} {h₀ : ExceptHandler} {hds : List ExceptHandler} {l : List Cl} {pos : Pos} {tb : WX → TS} {Wout : WX}
/-- the class that a clause names is asked first -/
theorem cls_test {pins : List (Addr × Obj)} {σ : L2.St} {H : Hp} {s : Shared} {a : Addr} {oe : Obj} {x : Str} {c : Value} {np : Pos} {Q E : Value → Shared → Prop} (S : Inv (X.suite a ((a, oe) :: (X.pn ++ pins))) [] σ H s) (hc : Names X x c) (q : Q c s) : wpAny (model X.prog X.w) (X.A.mark (some (.ref a))) (eval (.Name x np) X.env) Q E s := by
  obtain ⟨hg, hd, hm | ⟨hm, hv, hn⟩⟩ := hc
  · exact ld_glob (X := X.suite a ((a, oe) :: (X.pn ++ pins))) S hg hm q hd
  · exact ld_blt (X := X.suite a ((a, oe) :: (X.pn ++ pins))) S hg hm hv q hn hd
theorem ps_tryN (hs : X.stack = X.env :: X.outer) (hf : X.env.frame = some X.env.locals) (hN : X.N.Nodup) (tk : Takes X Wout)
    (hb : ∀ (W : WX) (pn : List (Addr × Obj)) (xe : Value → Shared → Prop), Takes (X.tr pn xe) W → PassesOwn (model X.prog X.w) X.A X.env xe → PSs (X.tr pn xe) body (tb W))
    (hh : ClsOk X (h₀ :: hds) l) : PS X (.Try body (h₀ :: hds) [] [] pos) (fun D σ H => tb (wCls X.K Wout D l) D σ H) := by
  refine ⟨fun pins s σ H D I h => ?_⟩
  have ok := I.ok
  have hfr : X.A.frames = some (X.env :: X.outer) := by rw [ok.frames, hs]
  refine wpAny_Try_except (wpAny_mono ((hb (wCls X.K Wout D l) (X.pn ++ pins) (fun e s₁ => wpAny (model X.prog X.w) X.A (noteFrame e X.env) (fun _ s₂ => wpAny (model X.prog X.w) X.A (setFlight e none) (fun _ s₃ =>
    wpAny (model X.prog X.w) X.A (handleBy e X.env (h₀ :: hds)) (SP X pins D) X.xe s₃) X.xe s₂) X.xe s₁) (fun u s' xx => ?_) PassesOwn.looking).run [] s σ H D (I.toTry _) h) (fun f s1 hsp => ?_) (fun e s1 he => he))
  · obtain ⟨a, B, sI, pins', σ', H', cls, d, rfl, J', nb, up, sky, na, os, ag, w⟩ := xx
    have J : Inv X pins σ' H' sI := J'.ofTry ok
    show wpAny (model X.prog X.w) X.A (noteFrame (.ref a) X.env) _ _ _
    refine Sky.land Zc.steady hfr hf (by rw [← hs]; exact sky) fun h3 fl3 up3 => ?_
    have J3 : Inv X pins σ' H' { s' with heap := h3 } := J.landed nb fl3.1 (up.trans up3) os ag
    obtain ⟨oe3, vs3, he3, hz3, hd3⟩ := fl3.there
    have nfr : a ∉ frs (X.env :: X.outer) := fun hm => by
      obtain ⟨_, o', e', hnf⟩ := fl3.2.2.1.mem hm
      rw [he3] at e'
      cases e'
      exact hnf _ hd3
    have nL : a ≠ X.env.locals := fun z => nfr (List.mem_filterMap.mpr ⟨X.env, List.mem_cons_self, by rw [hf, z]⟩)
    have nF : a ∉ X.fs := fun hm => by
      obtain ⟨e, he, q⟩ := List.mem_filterMap.mp hm
      exact nfr (List.mem_filterMap.mpr ⟨e, List.mem_cons_of_mem _ he, q⟩)
    have S3 := J3.suite he3 hd3 na nL nF
    have LT : PySem.W.Looks (model X.prog X.w) h3 (typeOf (.ref a)) cls := fun A Q E s k q => wpAny_typeOf_ref (k _ _ he3) (by rw [hz3.1]; exact q)
    have go : ∀ {hds' : List ExceptHandler} {l' : List Cl}, ClsOk X hds' l' → wCls X.K Wout D l' cls d σ' H' →
        wpAny (model X.prog X.w) X.A (handleBy (.ref a) X.env hds') (SP X pins D) X.xe { s' with heap := h3 } := by
      intro hds' l' hk
      induction hk with
      | nil =>
        intro w
        refine wpAny_handleBy_nil ?_
        obtain ⟨k1, k2, k3, oe, vs, T, oT, ts', he, hz, hd, h1, hr⟩ := id fl3
        unfold PySem.passOn
        refine wpAny_bind (wpAny_field he hd h1 ?_)
        rw [if_neg (show ¬ ((Value.ref T == Value.none) = true) from by simp)]
        have fin : wpAny (model X.prog X.w) X.A (setFlight (.ref a) X.env.frame) (fun _ s4 => wpAny (model X.prog X.w) X.A (throw (.ref a) : Sem Flow) (SP X pins D) X.xe s4) X.xe { s' with heap := h3 } := by
          rw [hf]
          exact HandSPX.setFlight_upZ fl3 fun h4 hh4 up4 => wpAny_throw (tk _ _ ⟨a, B, sI, pins, σ', H', cls, d, rfl, J, nb, (up.trans up3).trans up4, .inr (.inr (by rw [hs]; exact hh4)), na, os, ag, w⟩)
        first
          | exact wpAny_bind (wpAny_pure (wpAny_bind fin))
          | exact wpAny_bind fin
      | @only x c ts b₀ suite np pos' hds2 l2 hc hsu r ih =>
        intro w
        obtain ⟨b, hb1, hyes, hno⟩ := w
        refine wpAny_handleBy_cons (codeAny_handlers_test (cls_test S3 hc ((PySem.W.exm_one (M := model X.prog X.w) J3.kIn LT hb1).here ?_))) (by intro q; cases q)
        cases b with
        | true =>
          refine codeAny_handlers_suite (HandSPX.lands_againZ fl3 fun h4 fl4 up4 => ?_)
          have J4 : Inv X pins σ' H' { s' with heap := h4 } := J.landed nb fl4.1 ((up.trans up3).trans up4) os ag
          obtain ⟨oe4, vs4, he4, hz4, hd4⟩ := fl4.there
          refine wpAny_mono ((hsu a oe4 cls d (X.pn ++ pins) hz4 ⟨_, hd4⟩).run [] _ _ H' _ (J4.suite he4 hd4 na nL nF) (hyes rfl a na)) (fun f s6 hsp => ?_) (fun _ _ z => False.elim z)
          cases f with
          | next => obtain ⟨σ6, H6, S6, q6⟩ := hsp; exact ⟨_, _, S6.unsuite ok, q6⟩
          | brk => obtain ⟨σ6, H6, S6, q6⟩ := hsp; exact ⟨_, _, S6.unsuite ok, q6⟩
          | cont => obtain ⟨σ6, H6, S6, q6⟩ := hsp; exact ⟨_, _, S6.unsuite ok, q6⟩
          | ret u => obtain ⟨v6, σ6, H6, S6, r6, q6⟩ := hsp; exact ⟨_, _, _, S6.unsuite ok, r6, q6⟩
        | false => exact ih (hno rfl)
      | @named x n i c ts b₀ suite np pos' hds2 l2 hi hln hc hsu r ih =>
        intro w
        obtain ⟨b, hb1, hyes, hno⟩ := w
        refine wpAny_handleBy_cons (codeAny_handlers_test (cls_test S3 hc ((PySem.W.exm_one (M := model X.prog X.w) J3.kIn LT hb1).here ?_))) (by intro q; cases q)
        cases b with
        | true =>
          refine codeAny_handlers_suite_as (HandSPX.lands_againZ fl3 fun h4 fl4 up4 => ?_)
          have J4 : Inv X pins σ' H' { s' with heap := h4 } := J.landed nb fl4.1 ((up.trans up3).trans up4) os ag
          obtain ⟨oe4, vs4, he4, hz4, hd4⟩ := fl4.there
          refine store_ok (X := X.suite a ((a, oe4) :: (X.pn ++ pins))) (v := .ref a) (J4.suite he4 hd4 na nL nF) hN hi (.inl hln) rfl (fun s5 S5 => ?_) (.inr hln)
          refine wpAny_mono ((hsu a oe4 cls d (X.pn ++ pins) hz4 ⟨_, hd4⟩).run [] s5 _ H' _ S5 (hyes rfl a na)) (fun f s6 hsp => ?_) (fun _ _ z => False.elim z)
          cases f with
          | next => obtain ⟨σ6, H6, S6, q6⟩ := hsp; exact gone_ok (S6.unsuite ok) hN hi hln fun s7 J7 => ⟨_, _, J7, q6⟩
          | brk => obtain ⟨σ6, H6, S6, q6⟩ := hsp; exact gone_ok (S6.unsuite ok) hN hi hln fun s7 J7 => ⟨_, _, J7, q6⟩
          | cont => obtain ⟨σ6, H6, S6, q6⟩ := hsp; exact gone_ok (S6.unsuite ok) hN hi hln fun s7 J7 => ⟨_, _, J7, q6⟩
          | ret u => obtain ⟨v6, σ6, H6, S6, r6, q6⟩ := hsp; exact gone_ok (S6.unsuite ok) hN hi hln fun s7 J7 => ⟨_, _, _, J7, r6, q6⟩
        | false => exact ih (hno rfl)
    exact go hh w
  · cases f with
    | next => obtain ⟨σ', H', J', q⟩ := hsp; exact wpAny_execs_nil ⟨σ', H', J'.ofTry ok, q⟩
    | brk => obtain ⟨σ', H', J', q⟩ := hsp; exact ⟨σ', H', J'.ofTry ok, q⟩
    | cont => obtain ⟨σ', H', J', q⟩ := hsp; exact ⟨σ', H', J'.ofTry ok, q⟩
    | ret u => obtain ⟨v, σ', H', J', r, q⟩ := hsp; exact ⟨v, σ', H', J'.ofTry ok, r, q⟩
end
/-! ### blocks that end with a value -/
inductive RestH (X : Cx) : List ExceptHandler → Prop
  | nil : RestH X []
  | only {x : Str} {c : Value} {b₀ : Stmt} {suite : List Stmt} {np pos' : Pos} {hds : List ExceptHandler} (hc : Names X x c) (r : RestH X hds) : RestH X (.ExceptHandler (some (.Name x np)) none (b₀ :: suite) pos' :: hds)
  | named {x n : Str} {i : Nat} {c : Value} {b₀ : Stmt} {suite : List Stmt} {np pos' : Pos} {hds : List ExceptHandler} (hi : X.N[i]? = some n) (hln : X.env.kindOf n = some .local) (hc : Names X x c) (r : RestH X hds) : RestH X (.ExceptHandler (some (.Name x np)) (some n) (b₀ :: suite) pos' :: hds)
theorem RestH.cls {X : Cx} : ∀ {hds : List ExceptHandler}, RestH X hds → ∃ l, ClsOk X hds l
  | _, .nil => ⟨[], .nil⟩
  | _, .only hc r => by
    obtain ⟨l, h⟩ := r.cls
    exact ⟨_, .only (ts := fun _ _ _ => tNever) hc (fun _ _ _ _ _ _ _ => pss_never) h⟩
  | _, .named hi hln hc r => by
    obtain ⟨l, h⟩ := r.cls
    exact ⟨_, .named (ts := fun _ _ _ => tNever) hi hln hc (fun _ _ _ _ _ _ _ => pss_never) h⟩
/-- the error's field -/
def FldIs (K : PySem.W.Frag) (e : Exn) (d : Option Addr) (H : Hp) : Prop := match e.fld with
  | none => d = none
  | some (f, dv) => ∃ dd v, d = some dd ∧ H dd = some (.xd [(f, v)]) ∧ rD K dv v H
/-- a clause takes the error, and its suite ends with m -/
def Taken (X : Cx) (C : Cn) (Hs : List T) (Γx Γ' : Ctx) (m : M) (e : Exn) (D : Addr) (hds : List ExceptHandler) : Prop :=
  ∃ l, ClsOk X hds l ∧ ∀ (D' : Ends) (σ : L2.St) (hs : List V) (H : Hp) (d : Option Addr), As C Γx Hs σ hs H → FldIs C.K e d H → Cont C Hs (.rt Γ' m) D' → wCls X.K (fun _ _ _ _ => False) D' l (.ref D) d σ H
section
variable {X : Cx} {C : Cn} {Hs : List T} {Γ Γx Γ' : Ctx} {i : Nat} {n x f : Str} {c : Value} {np pos pos' : Pos} {body suite : List Stmt} {b₀ : Stmt} {h₀ : ExceptHandler} {hds : List ExceptHandler} {e : Exn} {m : M} {D : Addr} {dv : RL.D} {R : Type} {p : Except Exn R} {g : R → M}
theorem taken_F (hi : X.N[i]? = some n) (hc : Names X x c) (hn : e.fld = some (f, dv)) (hm : PySem.W.exmOne X.K (.ref D) c = some true)
    (hbare : Bare [i] Γx) (hfree : FreeJ [i] Hs) (hpn : ∀ p ∈ C.pin, p.1 ∉ [i]) (hlen : i < Γx.length)
    (hsu : ∀ (a : Addr) (oe : Obj) (pn : List (Addr × Obj)) (dd : Addr) (v : V) (H0 : Hp) (io : FS) (mio : ∀ a, io a → Mut (H0 a)), H0 dd = some (.xd [(f, v)]) → rD C.K dv v H0 → Zc (.ref D) (some dd) oe → (∃ vs, oe.data = .fields vs) → SS (X.suite a ((a, oe) :: pn)) ⟨C.K, H0, io, (i, .ref a) :: C.pin, mio⟩ Hs Γx (b₀ :: suite) (.rt Γ' m))
    (r : RestH X hds) (hln : X.env.kindOf n = some .local := by rfl) : Taken X C Hs Γx Γ' m e D (.ExceptHandler (some (.Name x np)) (some n) (b₀ :: suite) pos' :: hds) := by
  obtain ⟨l, hl⟩ := r.cls
  refine ⟨_, .named (ts := fun a cls d D' σ H => cls = .ref D ∧ ∃ (dd : Addr) (v : V) (H0 : Hp) (io : FS) (mio : ∀ a, io a → Mut (H0 a)), d = some dd ∧ H0 dd = some (.xd [(f, v)]) ∧ rD C.K dv v H0 ∧ sr ⟨C.K, H0, io, (i, .ref a) :: C.pin, mio⟩ Hs Γx (.rt Γ' m) D' σ H) hi hln hc (fun a oe cls d pn hz hfl => ⟨fun pins s σ H D' I ⟨e1, dd, v, H0, io, mio, e2, c3, c4, q⟩ => by
    subst e1 e2
    exact (hsu a oe pn dd v H0 io mio c3 c4 hz hfl).run pins s σ H D' I q⟩) hl, fun D' σ hs H d h fd q => ?_⟩
  unfold FldIs at fd
  rw [hn] at fd
  obtain ⟨dd, v, rfl, hdd, rv⟩ : ∃ dd v, d = some dd ∧ H dd = some (.xd [(f, v)]) ∧ rD C.K dv v H := fd
  obtain ⟨io, mio, h2, back⟩ := h.rebase
  refine ⟨true, hm, fun _ a na => ⟨rfl, dd, v, H, io, mio, rfl, hdd, rv, ⟨hs, ?_⟩, fun σ2 hs2 v2 H2 h3 => q σ2 hs2 v2 H2 (back (As.unpin (C := ⟨C.K, H, io, C.pin, mio⟩) (v := .ref a) h3))⟩, fun z => by cases z⟩
  have hsl : i < σ.length := by
    obtain ⟨fp, Wf⟩ := h
    rw [← Wf.lg]; exact hlen
  have h3 := h2.sig (σ' := σ.set i (some (.ref a))) (J := [i]) (by rw [List.length_set]) (fun j hj => List.getElem?_set_ne fun z => hj (by rw [z]; exact List.mem_singleton.mpr rfl)) hbare hfree hpn
  exact h3.pinIt (List.getElem?_set_self hsl)
theorem taken_N (hi : X.N[i]? = some n) (hc : Names X x c) (hn : e.fld = none) (hm : PySem.W.exmOne X.K (.ref D) c = some true)
    (hbare : Bare [i] Γx) (hfree : FreeJ [i] Hs) (hpn : ∀ p ∈ C.pin, p.1 ∉ [i]) (hlen : i < Γx.length)
    (hsu : ∀ (a : Addr) (oe : Obj) (pn : List (Addr × Obj)), Zc (.ref D) none oe → (∃ vs, oe.data = .fields vs) → SS (X.suite a ((a, oe) :: pn)) (C.pinned i (.ref a)) Hs Γx (b₀ :: suite) (.rt Γ' m))
    (r : RestH X hds) (hln : X.env.kindOf n = some .local := by rfl) : Taken X C Hs Γx Γ' m e D (.ExceptHandler (some (.Name x np)) (some n) (b₀ :: suite) pos' :: hds) := by
  obtain ⟨l, hl⟩ := r.cls
  refine ⟨_, .named (ts := fun a cls d D' σ H => cls = .ref D ∧ d = none ∧ sr (C.pinned i (.ref a)) Hs Γx (.rt Γ' m) D' σ H) hi hln hc (fun a oe cls d pn hz hfl => ⟨fun pins s σ H D' I ⟨e1, e2, q⟩ => by
    subst e1 e2
    exact (hsu a oe pn hz hfl).run pins s σ H D' I q⟩) hl, fun D' σ hs H d h fd q => ?_⟩
  unfold FldIs at fd
  rw [hn] at fd
  have fd : d = none := fd
  subst fd
  refine ⟨true, hm, fun _ a na => ⟨rfl, rfl, ⟨hs, ?_⟩, fun σ2 hs2 v2 H2 h2 => q σ2 hs2 v2 H2 h2.unpin⟩, fun z => by cases z⟩
  have hsl : i < σ.length := by
    obtain ⟨fp, Wf⟩ := h
    rw [← Wf.lg]; exact hlen
  have h3 := h.sig (σ' := σ.set i (some (.ref a))) (J := [i]) (by rw [List.length_set]) (fun j hj => List.getElem?_set_ne fun z => hj (by rw [z]; exact List.mem_singleton.mpr rfl)) hbare hfree hpn
  exact h3.pinIt (List.getElem?_set_self hsl)
theorem taken_next (hi : X.N[i]? = some n) (hc : Names X x c) (hm : PySem.W.exmOne X.K (.ref D) c = some false) (t : Taken X C Hs Γx Γ' m e D hds) (hln : X.env.kindOf n = some .local := by rfl) : Taken X C Hs Γx Γ' m e D (.ExceptHandler (some (.Name x np)) (some n) (b₀ :: suite) pos' :: hds) := by
  obtain ⟨l, hl, q⟩ := t
  exact ⟨_, .named (ts := fun _ _ _ => tNever) hi hln hc (fun _ _ _ _ _ _ _ => pss_never) hl, fun D' σ hs H d h fd c => ⟨false, hm, (fun z => by cases z), fun _ => q D' σ hs H d h fd c⟩⟩
/-- the body hands back, or raises what a clause takes -/
theorem s_tryN (hN : X.N.Nodup) (hs : X.stack = X.env :: X.outer := by rfl) (hf : X.env.frame = some X.env.locals := by rfl)
    (hb : ∀ (W : WX) (pn : List (Addr × Obj)) (xe : Value → Shared → Prop), Takes (X.tr pn xe) W → SG (X.tr pn xe) X.mg C W Hs Γ body (endX Γx (xmp g p)))
    (hr : RestH X (h₀ :: hds)) (hok : ∀ r, p = .ok r → m = g r) (herr : ∀ e, p = .error e → ∃ D, X.mg e.cls = some (.ref D) ∧ Taken X C Hs Γx Γx m e D (h₀ :: hds)) :
    S1 X C Hs Γ (.Try body (h₀ :: hds) [] [] pos) (.rt Γx m) := by
  cases p with
  | ok r =>
    rw [hok r rfl]
    obtain ⟨l, hl⟩ := hr.cls
    exact (ps_tryN (tb := fun _ => sr C Hs Γ (.rt Γx (g r))) hs hf hN takes_none (fun W pn xe tk _ => hb W pn xe tk) hl).wk fun σ H D q => q
  | error e =>
    obtain ⟨D, hD, l, hl, q⟩ := herr e rfl
    refine (ps_tryN (tb := fun W _ σ H => xrd X.mg C Hs Γ Γx W e σ H) hs hf hN takes_none (fun W pn xe tk _ => hb W pn xe tk) hl).wk fun σ H D' ⟨h, k⟩ => ⟨h, fun σ' cls d hs' H' h' ex => ?_⟩
    obtain ⟨a0, ha0, rfl, hfd⟩ := ex
    rw [hD] at ha0
    cases ha0
    exact q D' σ' hs' H' d h' hfd k
end
/-- class x is told by isinstance to be none of y -/
def kitBf (x y : Str) (K : PySem.W.Frag) : Bool := decide (PySem.W.kitOne K (.ref (He.ga K x)) (.ref (He.ga K y)) = some false)
end RL

set_option maxHeartbeats 4000000
/-! RL80: any datum read as what may be None -/
namespace RL
open PySem L2 PySem.Spec PyProof.Rows
section
variable {α : Type} {g : D → Option α} {f : α → D}
end
end RL

set_option maxHeartbeats 2000000
/-! RL81: a dict of a list and two numbers, by names: what other families of laws draw from -/
namespace RL
open PySem L2
/-- three names, apart -/
structure Nm where
  a : Str
  b : Str
  c : Str
  ab : ¬ (Sum.inr a : Key) = Sum.inr b
  ac : ¬ (Sum.inr a : Key) = Sum.inr c
  bc : ¬ (Sum.inr b : Key) = Sum.inr c
structure Pot where
  far : List Int
  mix : Int
  turn : Int
abbrev Pot.l (n : Nm) (d : Pot) : List (Key × M) := [(.inr n.a, .li (d.far.map D.int)), (.inr n.b, .im (.int d.mix)), (.inr n.c, .im (.int d.turn))]
abbrev Pot.m (n : Nm) (d : Pot) : M := .dk (Pot.l n d)
variable {n : Nm} {d : Pot}
section
variable {X : Cx} {C : Cn} {Γ Γ1 Γ2 : Ctx} {Ts Hs : List T} {nm e b : Expr} {pos p apos cpos : Pos} {j : Nat} {x i : Int} {k0 : Nat} {q : Pos} {s : Sp1} {r : R2} {m : M} {ds : List D} {c : Expr} {dd : D}
end
end RL

set_option maxHeartbeats 2000000
/-! RL82: drawing from a pot, in plain Lean -/
namespace RL
open PySem L2
/-! ### it is total -/
def Pot.ok (d : Pot) : Prop := d.far.length ≤ 63
/-! ### in another order -/
end RL

set_option maxHeartbeats 2000000
/-! RL83: sameness that shows both sides -/
namespace RL
open PySem L2
open Classical in
theorem FnG.or {P : Program} {w : World} {K : PySem.W.Frag} {mg : Str → Option Value} {base : Heap} {k : Nat} {f : Addr} {fd : FuncData} {ps : List Str} {s1 s2 sp' : Sp} (F1 : FnG P w K mg base k f fd ps s1) (F2 : FnG P w K mg base k f fd ps s2) (h : ∀ vs H Q E, sp' vs H Q E → s1 vs H Q E ∨ s2 vs H Q E) : FnG P w K mg base k f fd ps sp' :=
  ⟨fun vs H Q E q => (h _ _ _ _ q).elim (F1.len vs H Q E) (F2.len vs H Q E), fun A outer s H args us vs Q E hr hg he hb hv hs => (h _ _ _ _ hs).elim (F1.go A outer s H args us vs Q E hr hg he hb hv) (F2.go A outer s H args us vs Q E hr hg he hb hv)⟩
end RL

set_option maxHeartbeats 2000000
/-! RL84: dicts by numbers -/
namespace RL
open PySem L2
section
variable {X : Cx} {C : Cn} {Γ Γ1 Γ2 : Ctx} {Ts Hs : List T} {nme nm e b a kx : Expr} {pos p : Pos} {α : Type} {f : α → D} {x : α}
end
end RL

set_option maxHeartbeats 2000000
/-! RL85: data that repr shows, of short leaves -/
namespace RL
open PySem L2
/-! ### what repr shows -/
def FN (k n : Nat) (d : D) : Prop := d.ok = true ∧ d.p.showable = true ∧ d.p.hasDict = false ∧ d.p.leavesShort 100 = true ∧ d.p.depth ≤ k ∧ d.p.bulk ≤ n
theorem shDD_fn {k n : Nat} {d : D} (h : FN k n d) (hk : k ≤ 60) (hn : n ≤ 160000) : ∃ s, shDD d = some s := by
  obtain ⟨h1, h2, h3, h4, h5, h6⟩ := h
  have b := PyData.shown_le_bulk 100 (by omega) d.p h4
  have s : d.p.shown.length ≤ sizeLine := by
    have : (16777216 : Nat) = sizeLine := by decide
    have e : 102 * d.p.bulk ≤ 102 * 160000 := Nat.mul_le_mul_left _ (by omega)
    omega
  unfold shDD shows
  rw [if_pos (by simp only [h1, h2, h3, Bool.and_eq_true, decide_eq_true_eq, Bool.not_false, true_and]; exact ⟨by omega, s⟩)]
  exact ⟨_, rfl⟩
theorem fn_int {k n : Nat} {i : Int} (h : i.natAbs < 10 ^ 12) : FN k n (.int i) := by
  have e1 := PyData.shown_int_le h
  have h2 : i.natAbs.log2 < 1920 := by
    by_cases z : i.natAbs = 0
    · rw [z]; decide
    · rw [Nat.log2_lt z]
      exact Nat.lt_trans h (by decide)
  refine ⟨by unfold D.ok; rfl, ?_, ?_, ?_, ?_, ?_⟩ <;> unfold D.p
  · unfold PyData.showable; exact decide_eq_true h2
  · unfold PyData.hasDict; rfl
  · unfold PyData.leavesShort; exact decide_eq_true (by omega)
  · unfold PyData.depth; omega
  · unfold PyData.bulk; omega
theorem fn_non {k n : Nat} : FN k n .non := by
  refine ⟨by unfold D.ok; rfl, ?_, ?_, ?_, ?_, ?_⟩ <;> unfold D.p
  · unfold PyData.showable; rfl
  · unfold PyData.hasDict; rfl
  · unfold PyData.leavesShort; rfl
  · unfold PyData.depth; omega
  · unfold PyData.bulk; omega
theorem fn_bl {k n : Nat} {b : Bool} : FN k n (.bl b) := by
  refine ⟨by unfold D.ok; rfl, ?_, ?_, ?_, ?_, ?_⟩ <;> unfold D.p
  · unfold PyData.showable; rfl
  · unfold PyData.hasDict; rfl
  · unfold PyData.leavesShort; rfl
  · unfold PyData.depth; omega
  · unfold PyData.bulk; omega
theorem fn_str {k n : Nat} {s : Str} (h : PyData.strOk s = true) (hl : s.cps.size ≤ n) : FN k n (.str s) := by
  refine ⟨by unfold D.ok; exact h, ?_, ?_, ?_, ?_, ?_⟩ <;> unfold D.p
  · unfold PyData.showable; rfl
  · unfold PyData.hasDict; rfl
  · unfold PyData.leavesShort
    rw [List.all_eq_true]
    intro c hc
    unfold PyData.strOk at h
    rw [Array.all_eq_true_iff_forall_mem] at h
    have := of_decide_eq_true (h c (Array.mem_toList_iff.mp hc))
    exact decide_eq_true (by omega)
  · unfold PyData.depth; omega
  · unfold PyData.bulk; exact hl
theorem fn_all {k n : Nat} : ∀ {l : List D}, (∀ d ∈ l, FN k n d) → oks l = true ∧ PyData.showableAll (ps l) = true ∧ PyData.hasDictAll (ps l) = false ∧ PyData.leavesShortAll 100 (ps l) = true ∧ PyData.depthAll (ps l) ≤ k ∧ PyData.bulkAll (ps l) ≤ l.length * (n + 1)
  | [], _ => by
    refine ⟨by unfold oks; rfl, ?_, ?_, ?_, ?_, ?_⟩ <;> unfold ps
    · unfold PyData.showableAll; rfl
    · unfold PyData.hasDictAll; rfl
    · unfold PyData.leavesShortAll; rfl
    · unfold PyData.depthAll; omega
    · unfold PyData.bulkAll; omega
  | d :: l, h => by
    obtain ⟨a1, a2, a3, a4, a5, a6⟩ := h d (by simp)
    obtain ⟨b1, b2, b3, b4, b5, b6⟩ := fn_all (l := l) fun x hx => h x (by simp [hx])
    refine ⟨by unfold oks; rw [a1, b1] <;> rfl, ?_, ?_, ?_, ?_, ?_⟩ <;> unfold ps
    · unfold PyData.showableAll; rw [a2, b2] <;> rfl
    · unfold PyData.hasDictAll; rw [a3, b3] <;> rfl
    · unfold PyData.leavesShortAll; rw [a4, b4] <;> rfl
    · unfold PyData.depthAll; omega
    · unfold PyData.bulkAll
      rw [List.length_cons, Nat.add_mul, Nat.one_mul]
      omega
theorem fn_tup {k n m : Nat} {l : List D} (h : ∀ d ∈ l, FN k n d) (hl : l.length ≤ m) : FN (k + 1) (m * (n + 1)) (.tup l) := by
  obtain ⟨b1, b2, b3, b4, b5, b6⟩ := fn_all h
  have e : l.length * (n + 1) ≤ m * (n + 1) := Nat.mul_le_mul_right _ hl
  refine ⟨by unfold D.ok; exact b1, ?_, ?_, ?_, ?_, ?_⟩ <;> unfold D.p
  · unfold PyData.showable; exact b2
  · unfold PyData.hasDict; exact b3
  · unfold PyData.leavesShort; exact b4
  · unfold PyData.depth; omega
  · unfold PyData.bulk; omega
theorem fn_lst {k n m : Nat} {l : List D} (h : ∀ d ∈ l, FN k n d) (hl : l.length ≤ m) : FN (k + 1) (m * (n + 1)) (.lst l) := by
  obtain ⟨b1, b2, b3, b4, b5, b6⟩ := fn_all h
  have e : l.length * (n + 1) ≤ m * (n + 1) := Nat.mul_le_mul_right _ hl
  refine ⟨by unfold D.ok; exact b1, ?_, ?_, ?_, ?_, ?_⟩ <;> unfold D.p
  · unfold PyData.showable; exact b2
  · unfold PyData.hasDict; exact b3
  · unfold PyData.leavesShort; exact b4
  · unfold PyData.depth; omega
  · unfold PyData.bulk; omega
theorem fn_map {α : Type} {k n : Nat} {f : α → D} {l : List α} (h : ∀ x ∈ l, FN k n (f x)) : ∀ d ∈ l.map f, FN k n d := fun d hd => by
  obtain ⟨x, hx, rfl⟩ := List.mem_map.mp hd
  exact h x hx
theorem fn_two {k n : Nat} {a b : D} (h1 : FN k n a) (h2 : FN k n b) : ∀ d ∈ [a, b], FN k n d := fun d hd => by
  rcases List.mem_cons.mp hd with e | hd
  · subst e; exact h1
  · rcases List.mem_cons.mp hd with e | hd
    · subst e; exact h2
    · nomatch hd
/-- by the count of rounds -/
theorem fn_mono {k n k' n' : Nat} {d : D} (h : FN k n d) (h1 : k ≤ k') (h2 : n ≤ n') : FN k' n' d := ⟨h.1, h.2.1, h.2.2.1, h.2.2.2.1, Nat.le_trans h.2.2.2.2.1 h1, Nat.le_trans h.2.2.2.2.2 h2⟩
end RL

set_option maxHeartbeats 4000000
/-! RL86: the first place of an equal datum -/
namespace RL
open PySem L2 PySem.Spec PyProof.Rows
section
variable {X : Cx}
end
section
variable {X : Cx}
end
section
variable {X : Cx} {C : Cn} {Γ Γ1 Γ2 : Ctx} {Ts : List T} {a e : Expr} {pos apos : Pos} {n : Int} {α : Type} [DecidableEq α] {f : α → D} {xs : List α} {x : α} {k : Nat} {t : T}
end
end RL

set_option maxHeartbeats 4000000
/-! RL87: events: a word of three and numbers -/
namespace RL
open PySem L2 PySem.Spec PyProof.Rows PySem.W
inductive EvW where
  | hand | look | raised
  deriving DecidableEq
def EvW.s : EvW → Str
  | .hand => "hand"
  | .look => "look"
  | .raised => "raise"
abbrev Ev := EvW × List Int
theorem EvW.ok (w : EvW) : (D.str w.s).ok = true := by
  unfold D.ok
  cases w <;> decide +kernel
theorem EvW.inj {a b : EvW} (h : a.s = b.s) : a = b := by
  cases a <;> cases b <;> first | rfl | (exfalso; revert h; decide)
section
variable {X : Cx} {C : Cn} {Γ Γ1 Γ2 : Ctx} {Ts : List T} {a b : Expr} {pos : Pos} {ev : Ev} {k : Int} {v : Int} {kk : Nat} {q : Pos}
end
end RL

set_option maxHeartbeats 4000000
/-! RL88: dicts by numbers filled from lists of pairs, sorted keys -/
namespace RL
open PySem L2 PySem.Spec PyProof.Rows
section
variable {K : PySem.W.Frag} {α : Type} {f : α → D}
end
section
variable {X : Cx} {C : Cn} {Γ Γ1 : Ctx} {Ts : List T} {e nme : Expr} {t : T} {apos cpos : Pos} {α : Type} {f : α → D} {l m : List (Int × α)} {M' : M}
end
end RL

set_option maxHeartbeats 4000000
/-! RL89: dicts by tuples -/
namespace RL
open PySem L2 PySem.Spec PyProof.Rows
open PySem.W (AllAlike Sortable EachIs dataLe sortVals dataKind SortsAt sortingHeap sortingHeap_old list_sort_vals sortVals_data sortVals_length each_map bound_map KdlSrc kdl_hint_dict kdu_collect)
/-- data that may be keys, tuples all of them -/
structure KeyT {κ : Type} (f : κ → D) where
  nk : κ → NestedKey
  ok : ∀ x, (f x).nk = some (nk x)
  dp : ∀ x, (nk x).depth ≤ 8
  inj : ∀ x y, nk x = nk y → x = y
  tup : ∀ x, ∃ ds, f x = .tup ds
section
variable {X : Cx} {pins : List (Addr × Obj)} {σ : L2.St} {H : Hp} {s : Shared} {κ α : Type} [DecidableEq κ] {f : κ → D} {g : α → D} {K : PySem.W.Frag}
end
section
variable {κ α : Type} [DecidableEq κ] {f : κ → D} {g : α → D}
end
end RL

set_option maxHeartbeats 4000000
/-! RL90: dicts by tuples, rules; how often a datum stands in a list or tuple -/
namespace RL
open PySem L2 PySem.Spec PyProof.Rows
open PySem.W (AllAlike Sortable)
section
variable {X : Cx}
end
section
variable {X : Cx} {C : Cn} {Γ Γ1 Γ2 : Ctx} {Ts Hs : List T} {e nme nm a b kx : Expr} {t : T} {pos p apos cpos nmp : Pos} {κ α : Type} [DecidableEq κ] {f : κ → D} {g : α → D} {l m : List (κ × α)} {w : World}
end
end RL

set_option maxHeartbeats 4000000
/-! RL91: tuples from behind; how often a datum stands in a list or tuple -/
namespace RL
open PySem L2 PySem.Spec PyProof.Rows
section
variable {prog : Program} {w : World} {A : Around} {E : Value → Shared → Prop} {s : Shared}
open HT in
open HT in
end
section
variable {X : Cx}
end
section
variable {X : Cx} {C : Cn} {Γ Γ1 Γ2 : Ctx} {Ts : List T} {a e : Expr} {pos apos : Pos} {n : Int} {α : Type} [DecidableEq α] {f : α → D} {xs : List α} {x : α} {k : Nat} {t : T}
end
end RL

set_option maxHeartbeats 4000000
/-! RL92: four names at once -/
namespace RL
open PySem L2
section
variable {X : Cx} {C : Cn} {Γ Γ1 : Ctx} {Hs : List T} {a b c d : Expr} {m1 m2 m3 m4 : M} {px py pz pv pt pos : Pos}
end
end RL

set_option maxHeartbeats 4000000
/-! RL93: index and count of data with texts within -/
namespace RL
open PySem L2 PySem.Spec PyProof.Rows
/-- == is being equal -/
structure EqW {α : Type} [DecidableEq α] (f : α → D) (k : Nat) : Prop where
  dp : ∀ x, (f x).p.depth ≤ k
  eq : ∀ x y, PyData.eqv (f x).p (f y).p = decide (x = y)
section
variable {X : Cx} {C : Cn} {Γ Γ1 Γ2 : Ctx} {Ts : List T} {a e : Expr} {pos apos : Pos} {n : Int} {α : Type} [DecidableEq α] {f : α → D} {xs : List α} {x : α} {k : Nat} {t : T}
end
end RL

set_option maxHeartbeats 4000000
/-! RL94: lists of three -/
namespace RL
open PySem L2
def three {α : Type} : List α → Option (α × α × α)
  | [a, b, c] => some (a, b, c)
  | _ => none
section
variable {X : Cx} {C : Cn} {Γ Γ1 : Ctx} {Ts : List T} {a b : Expr} {rest : List Expr} {pos : Pos} {b1 k : Bool}
end
section
variable {X : Cx} {C : Cn} {Γ Γ1 : Ctx} {Ts : List T} {e : Expr} {α : Type} {enc : α → D} {xs : List α}
end
end RL

set_option maxHeartbeats 4000000
/-! RL95: list.remove -/
namespace RL
open PySem L2 PySem.Spec PyProof.Rows
section
variable {X : Cx}
end
section
variable {X : Cx} {C : Cn} {Γ Γ1 : Ctx} {Ts : List T} {e nme : Expr} {apos cpos : Pos} {α : Type} [DecidableEq α] {f : α → D} {xs ys : List α} {x : α} {k : Nat}
end
end RL

set_option maxHeartbeats 4000000
/-! RL96: a store at a place that is worked out -/
namespace RL
open PySem L2
section
variable {X : Cx} {C : Cn} {Γ Γ1 Γ2 : Ctx} {Hs : List T} {a e nme : Expr} {p pos : Pos} {α : Type} {f : α → D} {xs ys : List α} {x : α} {n : Int} {ds0 : List D}
end
end RL

set_option maxHeartbeats 2000000
/-! RL97: while loops the test of which may be stuck -/
namespace RL
open PySem L2
section
variable {X : Cx} {C : Cn} {Hs : List T} {c : Expr} {pos : Pos} {body : List Stmt} {S R : Type} {Γs : S → Ctx} {ρ : R → Ctx × M} {s0 : S}
end
section
variable {X : Cx} {C : Cn} {Γ Γ1 : Ctx} {Ts : List T} {e : Expr} {pos q : Pos} {d : D} {k k2 : Bool} {kk : Nat}
end
end RL

set_option maxHeartbeats 4000000
/-! RL98: dicts by tuples: k in d, d[k], d[k] = v, dict(pairs), walked -/
namespace RL
open PySem L2 PySem.Spec PyProof.Rows
section
variable {κ α : Type} [DecidableEq κ] {f : κ → D} {g : α → D}
section
variable {X : Cx} {pins : List (Addr × Obj)} {σ : L2.St} {H : Hp} {s : Shared}
end
end
end RL

set_option maxHeartbeats 4000000
/-! RL99: dicts by tuples, rules: in, [k], [k] = v, dict(pairs), walked -/
namespace RL
open PySem L2 PySem.Spec PyProof.Rows
section
variable {κ α : Type} [DecidableEq κ] {f : κ → D} {g : α → D} {l m : List (κ × α)} {w : World}
section
variable {X : Cx} {C : Cn} {Γ Γ1 Γ2 : Ctx} {Ts Hs : List T} {nme nm a b e : Expr} {t : T} {pos p nmp : Pos} {M0 : M} {q : κ} {z : α} {sts : List Stmt} {oo : O}
end
end
end RL

set_option maxHeartbeats 4000000
/-! RL100: list(zip(a, b)) of two lists -/
namespace RL
open PySem L2 PySem.Spec PyProof.Rows PySem.W
/-- a zip of two lists that has told i pairs, all of them kept -/
structure ZS (h : Heap) (z TI TO i1 i2 l1 l2 S : Addr) (xs ys : Array Value) (i : Nat) : Prop where
  ti : IsPair h TI (.ref i1) (.ref i2)
  h1 : h.IsListIter i1 l1 i
  h2 : h.IsListIter i2 l2 i
  a1 : h.IsList l1 xs
  a2 : h.IsList l2 ys
  zz : (IsZip h z TI TO .none ∧ ∃ a b, IsPair h TO a b) ∨ ∃ T f oT, IsZipHeld h z TI TO T f ∧ h.get? T = some oT ∧ T ≠ z ∧ T ≠ i1 ∧ T ≠ i2 ∧ T ≠ S
structure ZOff (z TI TO i1 i2 l1 l2 S : Addr) : Prop where
  z : z ≠ S
  TI : TI ≠ S
  TO : TO ≠ S
  i1 : i1 ≠ S
  i2 : i2 ≠ S
  l1 : l1 ≠ S
  l2 : l2 ≠ S
section
variable {prog : Program} {w : World} {A : Around} {E : Value → Shared → Prop} {s : Shared} {z TI TO i1 i2 l1 l2 S : Addr} {xs ys : Array Value}
theorem ZS.keep {h h' : Heap} {i : Nat} (x : ZS h z TI TO i1 i2 l1 l2 S xs ys i) (o : ZOff z TI TO i1 i2 l1 l2 S) (hk : ∀ b u, b ≠ S → h.get? b = some u → h'.get? b = some u) : ZS h' z TI TO i1 i2 l1 l2 S xs ys i := by
  refine ⟨hk _ _ o.TI x.ti, x.h1.at fun u e => hk _ u o.i1 e, x.h2.at fun u e => hk _ u o.i2 e, x.a1.at fun u e => hk _ u o.l1 e, x.a2.at fun u e => hk _ u o.l2 e, ?_⟩
  rcases x.zz with ⟨hz, a, b, hTO⟩ | ⟨T, f, oT, hz, hT, r1, r2, r3, r4⟩
  · exact .inl ⟨hk _ _ o.z hz, a, b, hk _ _ o.TO hTO⟩
  · exact .inr ⟨T, f, oT, hk _ _ o.z hz, hk _ _ r4 hT, r1, r2, r3, r4⟩
end
structure MadeZ (xs ys : Array Value) (lo : Addr) (h : Heap) (as : List Addr) : Prop where
  rise : as.Pairwise (· < ·)
  above : ∀ a ∈ as, lo ≤ a
  pairs : ∀ (j : Nat) (a : Addr), as[j]? = some a → ∃ x y, xs[j]? = some x ∧ ys[j]? = some y ∧ h.get? a = some { cls := .type "tuple", data := .seq #[x, y] }
theorem MadeZ.there {xs ys : Array Value} {lo : Addr} {h : Heap} {as : List Addr} (g : MadeZ xs ys lo h as) {a : Addr} (ha : a ∈ as) : a < h.objs.size := by
  obtain ⟨j, hj⟩ := List.mem_iff_getElem?.mp ha
  obtain ⟨_, _, _, _, e⟩ := g.pairs j a hj
  exact Heap.lt_size e
structure ZBelow (z TO i1 i2 S lo : Addr) : Prop where
  z : z < lo
  TO : TO < lo
  i1 : i1 < lo
  i2 : i2 < lo
  S : S < lo
section
variable {prog : Program} {w : World} {A : Around} {s : Shared} {R : Result → Shared → Prop} {z TI TO i1 i2 l1 l2 S lo : Addr} {xs ys : Array Value}
end
section
variable {prog : Program} {w : World} {A : Around} {E : Value → Shared → Prop} {s : Shared} {z TI TO i1 i2 l1 l2 S : Addr} {xs ys : Array Value}
end
section
variable {X : Cx}
end
section
variable {X : Cx} {C : Cn} {Γ Γ1 Γ2 : Ctx} {Ts : List T} {t1 t2 : T} {e e2 : Expr} {p p2 pos pos2 : Pos} {α β : Type} {f : α → D} {g : β → D}
end
end RL

set_option maxHeartbeats 4000000
/-! RL101: a dict by tuples walked; events as keys -/
namespace RL
open PySem L2 PySem.Spec PyProof.Rows
section
variable {κ α : Type} [DecidableEq κ] {f : κ → D} {g : α → D}
section
variable {X : Cx} {C : Cn} {Γ : Ctx} {Hs : List T} {tg iter : Expr} {l : List (κ × α)} {w : World}
end
end
section
variable {X : Cx} {C : Cn} {Γ : Ctx} {Hs : List T} {sts : List Stmt} {oo : O} {κ α : Type} [DecidableEq κ] {f : κ → D} {g : α → D} {l : List (κ × α)} {w : World}
end
end RL

set_option maxHeartbeats 4000000
/-! RL102: shifts and & of numbers -/
namespace RL
open PySem L2
section
variable {X : Cx} {C : Cn} {Γ Γ1 Γ2 : Ctx} {Ts : List T} {a b : Expr} {pos : Pos} {n n' : Int}
instance {i j : Int} : Decidable (CPow i j) := by unfold CPow; infer_instance
end
section
variable {X : Cx} {C : Cn} {Γ Γ1 Γ2 Γ3 : Ctx} {Ts : List T} {a : Expr} {pos p2 : Pos} {ev : Ev} {lo hi : Option Expr}
end
section
variable {X : Cx} {C : Cn} {Γ Γ1 : Ctx} {Ts : List T} {e : Expr} {α : Type} {enc : α → D} {xs : List α}
end
end RL

set_option maxHeartbeats 4000000
/-! RL103: dicts by tuples whose values are lists of their own -/
namespace RL
open PySem L2 PySem.Spec PyProof.Rows
section
variable {κ α : Type} [DecidableEq κ] {f : κ → D} {g : α → D} {K : PySem.W.Frag} {H H' : Hp}
def rLx (K : PySem.W.Frag) (f : κ → D) (g : α → D) : List (κ × List α) → List (NestedKey × Addr × Value) → List Addr → Hp → Prop
  | [], xs, bs, _ => xs = [] ∧ bs = []
  | (k, l) :: r, xs, bs, H => ∃ x b a vs ys cs, xs = (x, b, Value.ref a) :: ys ∧ bs = a :: cs ∧ (f k).nk = some x ∧ (∃ ds, f k = .tup ds) ∧ rD K (f k) (.ref b) H ∧ H a = some (.lst vs) ∧ rDs K (l.map g) vs H ∧ rLx K f g r ys cs H
theorem rLx.st (t : TF H H') : ∀ {l : List (κ × List α)} {xs : List (NestedKey × Addr × Value)} {bs : List Addr}, (∀ a ∈ bs, H' a = H a) → rLx K f g l xs bs H → rLx K f g l xs bs H'
  | [], xs, bs, _, h => h
  | (k, l) :: r, xs, bs, e, h => by
    unfold rLx at h ⊢
    obtain ⟨x, b, a, vs, ys, cs, rfl, rfl, h1, h2, h3, h4, h5, h6⟩ := h
    exact ⟨x, b, a, vs, ys, cs, rfl, rfl, h1, h2, rD.tf t h3, (e a (by simp)).trans h4, rDs.tf t h5, rLx.st t (fun c hc => e c (by simp [hc])) h6⟩
theorem rLx.lst : ∀ {l : List (κ × List α)} {xs : List (NestedKey × Addr × Value)} {bs : List Addr} {a : Addr}, rLx K f g l xs bs H → a ∈ bs → ∃ vs, H a = some (.lst vs)
  | [], xs, bs, a, h, m => by
    obtain ⟨_, rfl⟩ : xs = [] ∧ bs = [] := h
    cases m
  | (k, l) :: r, xs, bs, a, h, m => by
    unfold rLx at h
    obtain ⟨x, b, a0, vs, ys, cs, rfl, rfl, h1, h2, h3, h4, h5, h6⟩ := h
    rcases List.mem_cons.mp m with e | e
    · rw [e]; exact ⟨vs, h4⟩
    · exact rLx.lst h6 e
section
variable {X : Cx} {pins : List (Addr × Obj)} {σ : L2.St} {s : Shared}
end
/-- such a dict, the very objects told -/
def DlP (w : World) (f : κ → D) (g : α → D) (d : Addr) (o : Obj) (xs : List (NestedKey × Addr × Value)) (bs : List Addr) (l : List (κ × List α)) (K : PySem.W.Frag) (v : V) (H : Hp) (F : FS) : Prop := v = .ref d ∧ (d == sysModules) = false ∧ H d = some (.ext fun h => h.get? d = some o) ∧ DtO w o xs ∧ rLx K f g l xs bs H ∧ bs.Nodup ∧ ∀ b, F b ↔ (b = d ∨ b ∈ bs)
theorem DlP.st {w : World} {d : Addr} {o : Obj} {xs : List (NestedKey × Addr × Value)} {bs : List Addr} {l : List (κ × List α)} {v : V} {F : FS} (t : TF H H') (k : ∀ a, F a → H' a = H a) (h : DlP w f g d o xs bs l K v H F) : DlP w f g d o xs bs l K v H' F := by
  obtain ⟨e, ns, hd, D0, r, nd, ff⟩ := h
  exact ⟨e, ns, (k _ ((ff _).2 (.inl rfl))).trans hd, D0, rLx.st t (fun a ha => k a ((ff a).2 (.inr ha))) r, nd, ff⟩
theorem DlP.mu {w : World} {d : Addr} {o : Obj} {xs : List (NestedKey × Addr × Value)} {bs : List Addr} {l : List (κ × List α)} {v : V} {F : FS} {a : Addr} (h : DlP w f g d o xs bs l K v H F) (fa : F a) : Mut (H a) := by
  obtain ⟨_, _, hd, _, r, _, ff⟩ := h
  rcases (ff _).1 fa with rfl | m
  · rw [hd]; trivial
  · obtain ⟨vs, e⟩ := rLx.lst r m
    rw [e]; trivial
section
variable {X : Cx} {C : Cn} {Γ Γ1 Γ2 : Ctx} {Ts Hs : List T} {nme nm a b e tg : Expr} {pos p nmp apos cpos : Pos} {q : κ} {z : List α} {y : α} {sts : List Stmt} {oo : O} {w : World} {d : Addr} {o : Obj} {xs : List (NestedKey × Addr × Value)} {bs : List Addr} {l : List (κ × List α)} {es : List Expr}
end
end
end RL

set_option maxHeartbeats 4000000
/-! RL104: dict([(k, []) for k in ..]) -/
namespace RL
open PySem L2 PySem.Spec PyProof.Rows
section
variable {κ α : Type} [DecidableEq κ] {f : κ → D} {g : α → D} {K : PySem.W.Frag} {H H' : Hp}
section
variable {X : Cx} {pins : List (Addr × Obj)} {σ : L2.St} {s : Shared}
end
section
variable {X : Cx} {C : Cn} {Γ Γ1 : Ctx} {Ts : List T} {e : Expr} {es : List Expr} {pos p nmp : Pos} {k : κ} {ks : List κ} {w : World}
end
end
end RL

set_option maxHeartbeats 4000000
/-! RL105: any datum read as an event -/
namespace RL
open PySem L2
def EvW.of (w : Str) : Option EvW := if w = ("raise" : Str) then some .raised else if w = ("hand" : Str) then some .hand else if w = ("look" : Str) then some .look else none
end RL

set_option maxHeartbeats 4000000
/-! RL106: keys put together -/
namespace RL
open PySem L2 PySem.Spec PyProof.Rows
/-- data that may stand within keys -/
structure KeyN {κ : Type} (f : κ → D) (k : Nat) where
  nk : κ → NestedKey
  ok : ∀ x, (f x).nk = some (nk x)
  dp : ∀ x, (nk x).depth ≤ k
  inj : ∀ x y, nk x = nk y → x = y
/-- a key that is a tuple -/
def KeyN.t {κ : Type} {f : κ → D} {k : Nat} (a : KeyN f k) (hk : k ≤ 8) (tup : ∀ x, ∃ ds, f x = .tup ds) : KeyT f := ⟨a.nk, a.ok, fun x => Nat.le_trans (a.dp x) hk, a.inj, tup⟩
end RL

set_option maxHeartbeats 2000000
/-! RL107: a list of a list and two numbers: what k59 .. k73 draw from -/
namespace RL
open PySem L2
section
variable {K : PySem.W.Frag} {H : Hp}
theorem rMs_setIm {d d0 : D} {v : V} (rv : rD K d v H) : ∀ {ms : List M} {us : List V} {F : FS} {i : Nat}, rMs K ms us H F → ms[i]? = some (.im d0) → rMs K (ms.set i (.im d)) (us.set i v) H F
  | [], us, F, i, h, e => by simp at e
  | m :: ms, us, F, i, h, e => by
    unfold rMs at h
    obtain ⟨w, ws, F1, F2, rfl, r1, r2, dj, hf⟩ := h
    cases i with
    | zero =>
      have e : m = .im d0 := by simpa using e
      subst e
      unfold rM at r1
      show rMs K (.im d :: ms) (v :: ws) H F
      unfold rMs
      exact ⟨v, ws, F1, F2, rfl, by unfold rM; exact ⟨rv, r1.2⟩, r2, dj, hf⟩
    | succ i =>
      show rMs K (m :: ms.set i (.im d)) (w :: ws.set i v) H F
      unfold rMs
      exact ⟨w, _, F1, F2, rfl, r1, rMs_setIm rv r2 (by simpa using e), dj, hf⟩
theorem rMs_len : ∀ {ms : List M} {us : List V} {F : FS}, rMs K ms us H F → us.length = ms.length
  | [], us, F, h => by unfold rMs at h; rw [h.1]; rfl
  | m :: ms, us, F, h => by
    unfold rMs at h
    obtain ⟨w, ws, F1, F2, rfl, r1, r2, dj, hf⟩ := h
    simp [rMs_len r2]
end
section
variable {X : Cx} {C : Cn} {Γ Γ1 Γ2 : Ctx} {Ts Hs : List T} {nme e a : Expr} {pos p apos cpos : Pos} {j l : Nat} {n : Int} {i : Nat} {ms : List M} {d d0 : D}
/-- x[n] = a datum, where a datum stood -/
theorem gu_itemM (l : Nat) (hn : PE X nme (tVar l)) (hj : Γ[l]? = some (some (.ll ms))) (h1 : EQ X C Γ a (.int n)) (hi : ixN ms.length n = some i) (h0 : ms[i]? = some (.im d0))
    (ha : ∀ v, assign (.Subscript nme a pos) X.env v = (do
      let ov ← holding [v] (eval nme X.env)
      let iv ← holding [v, ov] (eval a X.env)
      standAt pos
      holding [v, ov, iv] (setItem ov iv v)
      release [v, ov, iv] []) := by intro _; rfl) :
    GU X C Hs Γ (.Subscript nme a pos) d (Γ.set l (some (.ll (ms.set i (.im d))))) := by
  obtain ⟨t1, p1, q1⟩ := h1
  refine (pg_sub hn p1 set_list ha).wk fun v σ H Q ⟨hs, h, r, q⟩ => ?_
  obtain ⟨w, F, hw, rm, chg⟩ := h.slot hj
  unfold rM at rm
  obtain ⟨a0, us, F', rfl, ho, rs, hn0, ff⟩ := rm
  refine ⟨.ref a0, hw, q1 σ H _ _ _ h fun y ry => ?_⟩
  unfold rD at ry
  have tf : TF H (upd H a0 (.lst (us.set i v))) := TF.write (by rw [ho]; trivial)
  refine ⟨a0, us, n, i, rfl, ry, ho, by rw [rMs_len rs]; exact hi, q σ _ tf ?_⟩
  refine chg _ _ F tf (fun b nb _ => upd_ne fun z => nb ((ff b).2 (.inl z))) ?_ fun b y => .inl y
  unfold rM
  exact ⟨a0, _, F', rfl, upd_same, rMs.st tf (fun b hb => upd_ne fun z => hn0 (z ▸ hb)) (rMs_setIm r rs h0), hn0, ff⟩
end
abbrev Pot.m2 (d : Pot) : M := .ll [.li (d.far.map D.int), .im (.int d.mix), .im (.int d.turn)]
variable {d : Pot}
theorem Pot.far_sub2 : (Pot.m2 d).sub (.i 0) = some (.li (d.far.map .int)) := rfl
theorem Pot.mix_sub2 : (Pot.m2 d).sub (.i 1) = some (.im (.int d.mix)) := rfl
theorem Pot.turn_sub2 : (Pot.m2 d).sub (.i 2) = some (.im (.int d.turn)) := rfl
theorem Pot.far_chg2 {l : List Int} : (Pot.m2 d).chg (.i 0) (.li (l.map .int)) = Pot.m2 ⟨l, d.mix, d.turn⟩ := rfl
/-- a number below a number -/
def drawQ_m (pot : Pot) (many : Int) : Option (Int × Pot) :=
  if (decide (many < 2)) = true then some (0, pot)
  else if (!pot.far.isEmpty) = true then
    pot.far.getLast?.bind fun cell =>
      if (decide (many ≤ cell)) = true then (gd (decide (0 < many))).bind fun _ => (gd (decide (CDivW cell many))).bind fun _ => (gd (decide (pot.far.dropLast.length < sizeLine))).bind fun _ => some (cell % many, ⟨pot.far.dropLast ++ [cell / many], pot.mix, pot.turn⟩)
      else (gd (decide (0 < many))).bind fun _ => some (cell % many, ⟨pot.far.dropLast, pot.mix, pot.turn⟩)
  else (gd (decide (0 < many))).bind fun _ =>
    let t := pot.turn + 1
    let a := (pot.mix + t * 2654435761) % 4294967279
    let b := (a * a + t * 40503 + 5) % 4294967231
    let c := (b * b + pot.mix) % 4294967291
    some (c / 256 % many, ⟨pot.far, pot.mix, t⟩)
abbrev drawQR : List M → M → List M → Prop := fun ms r ms' => ∃ (pot : Pot) (many : Int) (out : Int × Pot), drawQ_m pot many = some out ∧ ms = [Pot.m2 pot, .im (.int many)] ∧ r = .im (.int out.1) ∧ ms' = [Pot.m2 out.2]
theorem drawQ_tot {d : Pot} {n : Int} (h : d.ok) (h1 : 1 ≤ n) (hn : n < 2 ^ 60) : W (drawQ_m d n) fun p => p.2.ok ∧ 0 ≤ p.1 ∧ p.1 < n := by
  have hm : ∀ a : Int, 0 ≤ a % n ∧ a % n < n := fun a => ⟨Int.emod_nonneg a (by omega), Int.emod_lt_of_pos a (by omega)⟩
  unfold Pot.ok at h
  unfold drawQ_m
  refine W.i (fun z => W.s ⟨h, by show (0 : Int) ≤ 0; omega, by show (0 : Int) < n; omega⟩) fun z => W.i (fun hg => ?_) fun hg => W.g (by omega) (W.s ⟨h, hm _⟩)
  obtain ⟨c, hc⟩ : ∃ c, d.far.getLast? = some c := by
    cases q : d.far with
    | nil => rw [q] at hg; cases hg
    | cons a l => exact ⟨_, List.getLast?_eq_some_getLast (by simp)⟩
  have hl : d.far.dropLast.length ≤ 62 := by simp; omega
  refine W.e hc (W.i (fun _ => W.g (by omega) (W.g (wide_div (b := 60) (by omega) (by omega) (by omega) (by omega)) (W.g (bigl (by omega)) (W.s ⟨?_, hm _⟩)))) fun _ => W.g (by omega) (W.s ⟨by show d.far.dropLast.length ≤ 63; omega, hm _⟩))
  show (d.far.dropLast ++ [c / n]).length ≤ 63
  simp at hl ⊢
  omega
def pickQ_m {α : Type} (pot : Pot) (items : List α) : Option (α × Pot) := (drawQ_m pot items.length).bind fun p => (atI items p.1).bind fun x => some (x, p.2)
theorem pickQ_map {α : Type} (f : α → D) {pot : Pot} {items : List α} {p : α × Pot} (h : pickQ_m pot items = some p) : pickQ_m pot (items.map f) = some (f p.1, p.2) := by
  unfold pickQ_m at h ⊢
  obtain ⟨q, h1, h⟩ := bsplit h
  obtain ⟨x, h2, h⟩ := bsplit h
  cases h
  rw [List.length_map, h1]
  show (atI (items.map f) q.1).bind _ = _
  rw [atI_map h2]
  rfl
abbrev pickQR : List M → M → List M → Prop := fun ms r ms' => ∃ (pot : Pot) (items : List D) (out : D × Pot), pickQ_m pot items = some out ∧ (ms = [Pot.m2 pot, .im (.lst items)] ∨ ms = [Pot.m2 pot, .im (.tup items)]) ∧ r = .im out.1 ∧ ms' = [Pot.m2 out.2]
theorem pickQ_tot {α : Type} {d : Pot} {xs : List α} (h : d.ok) (hx : 1 ≤ xs.length) (hl : xs.length < 2 ^ 60) : W (pickQ_m d xs) fun p => p.2.ok ∧ p.1 ∈ xs := by
  unfold pickQ_m
  refine (drawQ_tot h (by omega) (by omega)).b fun p hp => ?_
  exact (atI_W hp.2.1 hp.2.2).b fun x hx => W.s ⟨hp.1, hx.1⟩
end RL

set_option maxHeartbeats 4000000
/-! RL108: dict(pairs) by numbers, the pairs in a tuple; d.get(k, x) -/
namespace RL
open PySem L2 PySem.Spec PyProof.Rows
section
variable {X : Cx} {C : Cn} {Γ Γ1 : Ctx} {Ts : List T} {e nm b c : Expr} {pos p nmp apos cpos : Pos} {α : Type} {f : α → D} {l m : List (Int × α)}
end
end RL

set_option maxHeartbeats 4000000
/-! RL109: a == b == c over texts, as a test -/
namespace RL
open PySem L2 PySem.Spec PyProof.Rows
section
variable {X : Cx} {C : Cn} {Γ Γ1 Γ2 : Ctx} {Ts : List T} {a b c : Expr} {pos : Pos} {n m k : Str}
end
end RL

set_option maxHeartbeats 4000000
/-! RL110: the two last things told change places -/
namespace RL
open PySem L2 PySem.Spec PyProof.Rows
section
variable {C : Cn} {Γ : Ctx} {Ts : List T} {σ : L2.St} {vs : List V} {H : Hp} {t t' : T} {v w : V}
theorem get_mid {α : Type} (l : List α) (a b : α) : (l ++ [a] ++ [b])[l.length]? = some a := by simp
theorem get_end {α : Type} (l : List α) (a b : α) : (l ++ [a] ++ [b])[l.length + 1]? = some b := by simp
theorem get_ahead {α : Type} {l : List α} {a b : α} {k : Nat} (h : k < l.length) : (l ++ [a] ++ [b])[k]? = l[k]? := by
  rw [List.append_assoc, List.getElem?_append_left h]
theorem get_past {α : Type} {l : List α} {a b : α} {k : Nat} (h : l.length + 2 ≤ k) : (l ++ [a] ++ [b])[k]? = none := by
  rw [List.getElem?_eq_none]; simp; omega
theorem As.swap (h : As C Γ (Ts ++ [t] ++ [t']) σ (vs ++ [v] ++ [w]) H) : As C Γ (Ts ++ [t'] ++ [t]) σ (vs ++ [w] ++ [v]) H := by
  obtain ⟨fp, W⟩ := h
  have ln : Ts.length = vs.length := by have := W.ln; simp at this; exact this
  let s : Sum Nat Nat → Sum Nat Nat := fun y => if y = .inr Ts.length then .inr (Ts.length + 1) else if y = .inr (Ts.length + 1) then .inr Ts.length else y
  have s0 : s (.inr Ts.length) = .inr (Ts.length + 1) := if_pos rfl
  have s1 : s (.inr (Ts.length + 1)) = .inr Ts.length := (if_neg (fun z => by have := Sum.inr.inj z; omega)).trans (if_pos rfl)
  have s2 : ∀ y, y ≠ .inr Ts.length → y ≠ .inr (Ts.length + 1) → s y = y := fun y h1 h2 => (if_neg h1).trans (if_neg h2)
  have inv : ∀ y, s (s y) = y := by
    intro y
    by_cases a : y = .inr Ts.length
    · rw [a, s0, s1]
    · by_cases b : y = .inr (Ts.length + 1)
      · rw [b, s1, s0]
      · rw [s2 y a b, s2 y a b]
  refine ⟨fun y => fp (s y), W.lg, by simp [ln], fun i m q => ?_, fun k t0 q => ?_, fun x y hxy => W.dj _ _ fun e => hxy (by rw [← inv x, e, inv]), fun x => W.sn _, fun x => W.mu _, W.fr, W.pn⟩
  · obtain ⟨v', q1, q2⟩ := W.sl i m q
    exact ⟨v', q1, by rw [s2 (.inl i) (fun z => nomatch z) (fun z => nomatch z)]; exact q2⟩
  · rcases Nat.lt_trichotomy k Ts.length with hk | hk | hk
    · rw [get_ahead hk] at q
      obtain ⟨v', q1, q2⟩ := W.tp k t0 (by rw [get_ahead hk]; exact q)
      rw [get_ahead (by omega)] at q1
      exact ⟨v', by rw [get_ahead (by omega)]; exact q1, by rw [s2 (.inr k) (fun z => by have := Sum.inr.inj z; omega) (fun z => by have := Sum.inr.inj z; omega)]; exact q2⟩
    · subst hk
      rw [get_mid] at q
      cases q
      obtain ⟨v', q1, q2⟩ := W.tp (Ts.length + 1) t' (get_end _ _ _)
      rw [ln, get_end] at q1
      cases q1
      exact ⟨w, by rw [ln]; exact get_mid _ _ _, by rw [s0]; exact q2⟩
    · rcases Nat.lt_or_ge k (Ts.length + 2) with h2 | h2
      · obtain rfl : k = Ts.length + 1 := by omega
        rw [get_end] at q
        cases q
        obtain ⟨v', q1, q2⟩ := W.tp Ts.length t (get_mid _ _ _)
        rw [ln, get_mid] at q1
        cases q1
        exact ⟨v, by rw [ln]; exact get_end _ _ _, by rw [s1]; exact q2⟩
      · rw [get_past h2] at q
        cases q
end
end RL

set_option maxHeartbeats 4000000
/-! RL111: what is walked, told below any list that grows -/
namespace RL
open PySem L2 PySem.Spec PyProof.Rows
section
variable {X : Cx} {C : Cn} {Γ Γ1 Γ2 Γ3 Γ' : Ctx} {Ts Hs : List T} {t t1 t2 t3 : T} {ts : List T} {e a b c tg iter elt : Expr} {es rest ifs : List Expr} {pos p p2 nm : Pos} {i j : Nat} {d d1 d2 d3 : D} {ds ds' : List D} {m : M} {b1 b2 k : Bool} {hx : V → T} {cond : Ctx → Prop} {body : List Stmt}
/-- as ir, but what is walked is told whatever else is told -/
def irU (C : Cn) (Γ : Ctx) (Hs : List T) (Γ1 : Ctx) (hx : V → T) (ds : List D) : TI := fun σ H R => ∃ hs, As C Γ Hs σ hs H ∧
  ∀ v J H1, As C Γ1 (Hs ++ [hx v]) σ (hs ++ [v]) H1 → (∃ G Y, Walk J ds.length G Y ∧ (∀ Γ' Hs' σ' hs' H', As C Γ' (Hs' ++ [hx v]) σ' (hs' ++ [v]) H' → G H') ∧
    ∀ i H' x H'', i < ds.length → G H' → Y i H' x H'' → Ext H' H'' ∧ ∃ d, ds[i]? = some d ∧ rD C.K d x H'') → R J H1
abbrev ITU (X : Cx) (C : Cn) (Hs : List T) (tg iter : Expr) (Γ Γ1 : Ctx) (hx : V → T) (ds : List D) : Prop := PI X tg iter (irU C Γ Hs Γ1 hx ds)
end
end RL

set_option maxHeartbeats 4000000
/-! RL112: comprehensions with two clauses -/
namespace RL
open PySem L2 PySem.Spec PyProof.Rows
theorem PI.ex {ι : Type} {X : Cx} {tg iter : Expr} {wi : ι → TI} {P : ι → Prop} (h : ∀ i, P i → PI X tg iter (wi i)) : PI X tg iter (fun σ H R => ∃ i, P i ∧ wi i σ H R) :=
  ⟨fun pins s σ H R I ⟨i, hp, w⟩ => (h i hp).run pins s σ H R I w⟩
section
variable {X : Cx} {C : Cn} {Γ Γ0 : Ctx} {Ts : List T} {tg iter tg1 iter1 elt : Expr} {ifs1 : List Expr} {pos : Pos} {hx hx1 : V → T} {cond : Ctx → Prop}
  {α γ β : Type} {f : α → γ → Option (Option β)} {enc : α → D} {enc1 : γ → D} {eb : β → D} {xs : List α} {ys : α → List γ} {out : List β} {Γt : α → Ctx} {Γu Γw : α → γ → Ctx} {tb : α → γ → Bool} {own : List (Str × Nat)} {vs1 : List Nat} {scope : Scope}
structure Lc2 (X : Cx) (C : Cn) (Ts : List T) (Γ Γ0 : Ctx) (tg iter tg1 iter1 elt : Expr) (ifs1 : List Expr) (scope : Scope) (own : List (Str × Nat)) (vs1 : List Nat) (f : α → γ → Option (Option β)) (enc : α → D) (enc1 : γ → D) (eb : β → D) (xs : List α) (ys : α → List γ) (Γt : α → Ctx) (Γu Γw : α → γ → Ctx) (tb : α → γ → Bool) (hx hx1 : V → T) (cond : Ctx → Prop) : Prop where
  fx : Fix hx
  fx1 : Fix hx1
  it : IT X C Ts tg iter Γ Γ0 hx cond (xs.map enc)
  cd : cond Γ0
  gt : ∀ (s : Shared) (H : Hp) (Ca : Addr) (cl : List (Str × Addr)) (fp : List Addr) (v q : V) (acc : List D) (x : α), GT (X.blk s H scope (compEnvC scope cl Ca X.env) fp) C (Ts ++ [hx v] ++ [.hid (.li acc) q]) Γ0 tg (enc x) (Γt x) (own.map (·.2))
  it1 : ∀ (s : Shared) (H : Hp) (Ca : Addr) (cl : List (Str × Addr)) (fp : List Addr) (v q : V) (acc : List D) (x : α), ITU (X.blk s H scope (compEnvC scope cl Ca X.env) fp) C (Ts ++ [hx v] ++ [.hid (.li acc) q]) tg1 iter1 (Γt x) (Γt x) hx1 ((ys x).map enc1)
  gt1 : ∀ (s : Shared) (H : Hp) (Ca : Addr) (cl : List (Str × Addr)) (fp : List Addr) (v q w : V) (acc : List D) (x : α) (y : γ), GT (X.blk s H scope (compEnvC scope cl Ca X.env) fp) C (Ts ++ [hx v] ++ [hx1 w] ++ [.hid (.li acc) q]) (Γt x) tg1 (enc1 y) (Γu x y) vs1
  tt : ∀ (s : Shared) (H : Hp) (Ca : Addr) (cl : List (Str × Addr)) (fp : List Addr) (v q w : V) (acc : List D) (x : α) (y : γ), (∃ r, f x y = some r) → PTs (X.blk s H scope (compEnvC scope cl Ca X.env) fp) ifs1 (tr C (Γu x y) (Ts ++ [hx v] ++ [hx1 w] ++ [.hid (.li acc) q]) (Γw x y) (tb x y))
  el : ∀ (s : Shared) (H : Hp) (Ca : Addr) (cl : List (Str × Addr)) (fp : List Addr) (v q w : V) (acc : List D) (x : α) (y : γ) (z : β), tb x y = true → f x y = some (some z) → EE (X.blk s H scope (compEnvC scope cl Ca X.env) fp) C (Γw x y) (Ts ++ [hx v] ++ [hx1 w] ++ [.hid (.li acc) q]) elt (Γt x) (.im (eb z))
  ft : ∀ x y r, tb x y = true → f x y = some r → ∃ d, r = some d
  ff : ∀ x y r, tb x y = false → f x y = some r → r = none ∧ wkL (Γt x) (Γw x y)
  w0 : ∀ x, wkL Γ0 (Γt x)
  br : Bare (own.map (·.2)) Γ0
  br1 : ∀ x, Bare vs1 (Γt x)
  sub : ∀ i ∈ vs1, i ∈ own.map (·.2)
  fr : FreeJ (own.map (·.2)) Ts
  fh : ∀ v, FreeJ (own.map (·.2)) [hx v]
  fh1 : ∀ v, FreeJ (own.map (·.2)) [hx1 v]
  pn : ∀ p ∈ C.pin, p.1 ∉ own.map (·.2)
def l2M (f : α → γ → Option (Option β)) (ps : List (α × γ)) : Option (Unit × List β) := lcM (S := Unit) (fun _ p => (f p.1 p.2).map fun z => ((), z)) () ps
abbrev l2P (xs : List α) (ys : α → List γ) : List (α × γ) := xs.flatMap fun x => (ys x).map (Prod.mk x)
theorem l2M_cons {x : α} {y : γ} {ps : List (α × γ)} (h : l2M f ((x, y) :: ps) = some ((), out)) : ∃ od zs, f x y = some od ∧ l2M f ps = some ((), zs) ∧ out = (match od with | some d => d :: zs | none => zs) := by
  obtain ⟨s', od, zs, h1, h2, h3⟩ := lcM_cons h
  cases hf : f x y with
  | none => rw [hf] at h1; cases h1
  | some r =>
    rw [hf] at h1
    cases h1
    exact ⟨_, zs, rfl, h2, h3⟩
/-- the first walk's places, the store's, the tests' and the item's, told of all at once -/
def l2G (C : Cn) (Ts : List T) (own : List (Str × Nat)) (enc : α → D) (Γ0 : Ctx) (Γt : α → Ctx) (hx : V → T) : TG := fun v σ H Q => ∃ q : V × V × List D × α, True ∧ gr C Γ0 (Ts ++ [hx q.1] ++ [.hid (.li q.2.2.1) q.2.1]) (enc q.2.2.2) (Γt q.2.2.2) (own.map (·.2)) v σ H Q
def l2I (C : Cn) (Ts : List T) (enc1 : γ → D) (ys : α → List γ) (Γt : α → Ctx) (hx hx1 : V → T) : TI := fun σ H R => ∃ q : V × V × List D × α, True ∧ irU C (Γt q.2.2.2) (Ts ++ [hx q.1] ++ [.hid (.li q.2.2.1) q.2.1]) (Γt q.2.2.2) hx1 ((ys q.2.2.2).map enc1) σ H R
def l2G1 (C : Cn) (Ts : List T) (vs1 : List Nat) (enc1 : γ → D) (Γt : α → Ctx) (Γu : α → γ → Ctx) (hx hx1 : V → T) : TG := fun v σ H Q => ∃ q : V × V × V × List D × α × γ, True ∧ gr C (Γt q.2.2.2.2.1) (Ts ++ [hx q.1] ++ [hx1 q.2.2.1] ++ [.hid (.li q.2.2.2.1) q.2.1]) (enc1 q.2.2.2.2.2) (Γu q.2.2.2.2.1 q.2.2.2.2.2) vs1 v σ H Q
def l2T (C : Cn) (Ts : List T) (f : α → γ → Option (Option β)) (Γu Γw : α → γ → Ctx) (tb : α → γ → Bool) (hx hx1 : V → T) : TT := fun σ H Q => ∃ q : V × V × V × List D × α × γ, (∃ r, f q.2.2.2.2.1 q.2.2.2.2.2 = some r) ∧ tr C (Γu q.2.2.2.2.1 q.2.2.2.2.2) (Ts ++ [hx q.1] ++ [hx1 q.2.2.1] ++ [.hid (.li q.2.2.2.1) q.2.1]) (Γw q.2.2.2.2.1 q.2.2.2.2.2) (tb q.2.2.2.2.1 q.2.2.2.2.2) σ H Q
def l2E (C : Cn) (Ts : List T) (f : α → γ → Option (Option β)) (eb : β → D) (Γt : α → Ctx) (Γw : α → γ → Ctx) (tb : α → γ → Bool) (hx hx1 : V → T) : TE := fun σ H Q => ∃ q : V × V × V × List D × α × γ × β, (tb q.2.2.2.2.1 q.2.2.2.2.2.1 = true ∧ f q.2.2.2.2.1 q.2.2.2.2.2.1 = some (some q.2.2.2.2.2.2)) ∧
  er C (Γw q.2.2.2.2.1 q.2.2.2.2.2.1) (Ts ++ [hx q.1] ++ [hx1 q.2.2.1] ++ [.hid (.li q.2.2.2.1) q.2.1]) (Γt q.2.2.2.2.1) (.im (eb q.2.2.2.2.2.2)) σ H Q
end
end RL

set_option maxHeartbeats 4000000
/-! RL113: comprehensions with two clauses, told -/
namespace RL
open PySem L2 PySem.Spec PyProof.Rows
section
variable {X : Cx} {C : Cn} {Γ Γ0 : Ctx} {Ts : List T} {tg iter tg1 iter1 elt : Expr} {ifs1 : List Expr} {pos : Pos} {hx hx1 : V → T} {cond : Ctx → Prop}
  {α γ β : Type} {f : α → γ → Option (Option β)} {enc : α → D} {enc1 : γ → D} {eb : β → D} {xs : List α} {ys : α → List γ} {out : List β} {Γt : α → Ctx} {Γu Γw : α → γ → Ctx} {tb : α → γ → Bool} {own : List (Str × Nat)} {vs1 : List Nat} {scope : Scope}
theorem Lc2.sat (L : Lc2 X C Ts Γ Γ0 tg iter tg1 iter1 elt ifs1 scope own vs1 f enc enc1 eb xs ys Γt Γu Γw tb hx hx1 cond) (h : l2M f (l2P xs ys) = some ((), out)) (hz : out.length ≤ sizeLine) {σ : L2.St} {vs : List V} {H : Hp} {Q : VK} (h0 : As C Γ Ts σ vs H) (q : ∀ z H', As C Γ0 (Ts ++ [.own (.li (out.map eb))]) σ (vs ++ [z]) H' → Q z H') :
    tLc2 (ir C Γ Ts Γ0 hx cond (xs.map enc)) (l2G C Ts own enc Γ0 Γt hx) tYes (l2I C Ts enc1 ys Γt hx hx1) (l2G1 C Ts vs1 enc1 Γt Γu hx hx1) (l2T C Ts f Γu Γw tb hx hx1) (l2E C Ts f eb Γt Γw tb hx hx1) (own.map (·.2)) vs1 σ H Q := by
  refine ⟨vs, h0, fun v Ji H1 hA ⟨G, Y, w, g1, g2⟩ Dd hD => ?_⟩
  rw [List.length_map] at w g2
  have fr2 : FreeJ (own.map (·.2)) (Ts ++ [hx v]) := fun i hi => (L.fr i hi).append (L.fh v i hi)
  have fr3 : ∀ acc, FreeJ (own.map (·.2)) (Ts ++ [hx v] ++ [.hid (.li acc) (.ref Dd)]) := fun acc i hi => (fr2 i hi).append ⟨trivial, trivial⟩
  have fr4 : ∀ v1 acc, FreeJ (own.map (·.2)) (Ts ++ [hx v] ++ [hx1 v1] ++ [.hid (.li acc) (.ref Dd)]) := fun v1 acc i hi => ((fr2 i hi).append (L.fh1 v1 i hi)).append ⟨trivial, trivial⟩
  have pn1 : ∀ p ∈ C.pin, p.1 ∉ vs1 := fun p hp z => L.pn p hp (L.sub _ z)
  have hA1 : As C Γ0 (Ts ++ [hx v]) (wipe σ (own.map (·.2))) (vs ++ [v]) H1 := hA.sig (wipe_length _ _) (fun i hi => wipe_out hi) L.br fr2 L.pn
  have hA2 : As C Γ0 (Ts ++ [hx v] ++ [.hid (.li []) (.ref Dd)]) (wipe σ (own.map (·.2))) (vs ++ [v] ++ [.ref Dd]) (upd H1 Dd (.lst [])) := by
    refine hA1.push (Ext.new hD) (t := .hid (.li []) (.ref Dd)) (F := fun a => a = Dd) ⟨rfl, ?_⟩ (fun a e => by rw [e]; exact hD) fun a e => by rw [e, upd_same]; trivial
    unfold rM
    exact ⟨Dd, [], rfl, upd_same, by unfold rDs; rfl, fun b => Iff.rfl⟩
  let P0 : Nat → Hp → Prop := fun i H => ∃ (acc zs : List β), As C Γ0 (Ts ++ [hx v] ++ [.hid (.li (acc.map eb)) (.ref Dd)]) (wipe σ (own.map (·.2))) (vs ++ [v] ++ [.ref Dd]) H ∧ l2M f (l2P (xs.drop i) ys) = some ((), zs) ∧ out = acc ++ zs
  refine ⟨fun i m H => m = xs.length - i ∧ i ≤ xs.length ∧ P0 i H, ⟨xs.length, by simp, Nat.zero_le _, [], out, hA2, by simpa using h, rfl⟩, ?_⟩
  rintro i m H2 ⟨rfl, hi, acc, zs, hB, hm, hy⟩
  have gq := g1 _ _ _ H2 L.cd hB.pop
  by_cases hlt : i < xs.length
  · refine .inr ⟨w.goes i H2 hlt gq, P0 (i + 1), fun H' p' => ⟨xs.length - (i + 1), by omega, rfl, hlt, p'⟩, fun x H' y => ?_⟩
    obtain ⟨ex, d, hd, rd⟩ := g2 i H2 x H' hlt gq (w.yields i H2 x H' hlt gq y)
    rw [List.getElem?_map, List.getElem?_eq_getElem hlt] at hd
    cases hd
    rw [List.drop_eq_getElem_cons hlt] at hm
    generalize hxi : xs[i] = xi at *
    refine ⟨(v, .ref Dd, acc.map eb, xi), trivial, _, hB.ext ex, rd, fun σ2 ag h2 => ⟨by rw [wipe_of ag, wipe_wipe], ?_⟩⟩
    have ag2 : Agree (own.map (·.2)) (wipe σ (own.map (·.2))) σ2 := ag
    unfold tYes
    refine Eq.mpr (if_pos rfl) ?_
    refine ⟨(v, .ref Dd, acc.map eb, xi), trivial, _, h2, fun v1 J1 H4 hC ⟨G1, Y1, w1, k1, k2⟩ => ?_⟩
    rw [List.length_map] at w1 k2
    have hC3 : As C (Γt xi) (Ts ++ [hx v] ++ [hx1 v1] ++ [.hid (.li (acc.map eb)) (.ref Dd)]) (wipe σ2 vs1) (vs ++ [v] ++ [v1] ++ [.ref Dd]) H4 :=
      hC.swap.sig (wipe_length _ _) (fun i hi => wipe_out hi) (L.br1 xi) (fun i hi => fr4 v1 _ i (L.sub i hi)) pn1
    let P1 : Nat → Hp → Prop := fun j H => ∃ (acc zs : List β), As C (Γt xi) (Ts ++ [hx v] ++ [hx1 v1] ++ [.hid (.li (acc.map eb)) (.ref Dd)]) (wipe σ2 vs1) (vs ++ [v] ++ [v1] ++ [.ref Dd]) H ∧ l2M f (((ys xi).drop j).map (Prod.mk xi) ++ l2P (xs.drop (i + 1)) ys) = some ((), zs) ∧ out = acc ++ zs
    refine ⟨fun j k H => k = (ys xi).length - j ∧ j ≤ (ys xi).length ∧ P1 j H, ⟨(ys xi).length, by simp, Nat.zero_le _, acc, zs, hC3, by simpa [l2P] using hm, hy⟩, ?_⟩
    rintro j k H5 ⟨rfl, hj, acc1, zs1, hE, hn, hy1⟩
    have gq1 := k1 _ _ _ _ H5 hE.swap
    by_cases hlj : j < (ys xi).length
    · refine .inr ⟨w1.goes j H5 hlj gq1, P1 (j + 1), fun H' p' => ⟨(ys xi).length - (j + 1), by omega, rfl, hlj, p'⟩, fun x1 H6 y1 => ?_⟩
      obtain ⟨ex1, d1, hd1, rd1⟩ := k2 j H5 x1 H6 hlj gq1 (w1.yields j H5 x1 H6 hlj gq1 y1)
      rw [List.getElem?_map, List.getElem?_eq_getElem hlj] at hd1
      cases hd1
      rw [List.drop_eq_getElem_cons hlj, List.map_cons, List.cons_append] at hn
      obtain ⟨od, zs2, hf, hn2, hz2⟩ := l2M_cons hn
      refine ⟨(v, .ref Dd, v1, acc1.map eb, xi, (ys xi)[j]), trivial, _, hE.ext ex1, rd1, fun σ3 ag3 h6 => ⟨by rw [wipe_of ag3, wipe_wipe], ?_⟩⟩
      have ag4 : Agree vs1 (wipe σ2 vs1) σ3 := ag3
      refine ⟨(v, .ref Dd, v1, acc1.map eb, xi, (ys xi)[j]), ⟨_, hf⟩, _, h6, fun H7 h7 => ?_⟩
      cases hb : tb xi (ys xi)[j] with
      | true =>
        show (if true = true then _ else _)
        rw [if_pos rfl]
        obtain ⟨dd, hod⟩ := L.ft _ _ _ hb hf
        cases hod
        refine ⟨(v, .ref Dd, v1, acc1.map eb, xi, (ys xi)[j], dd), ⟨hb, hf⟩, _, h7, fun yv H8 h8 => ?_⟩
        have rdy := h8.topIm
        have h9 := h8.pop
        obtain ⟨F, ⟨e5, r5⟩, up⟩ := h9.top
        unfold rM at r5
        obtain ⟨a5, us5, ea, hl5, rd5, hF5⟩ := r5
        cases ea
        have hlen : acc1.length < sizeLine := by
          have : out.length = acc1.length + (zs2.length + 1) := by rw [hy1, hz2]; simp
          omega
        refine ⟨us5, hl5, by rw [rd5.len, List.length_map]; exact hlen, acc1 ++ [dd], zs2, ?_, hn2, by rw [hy1, hz2]; simp⟩
        have mu : Mut (H8 Dd) := by rw [hl5]; trivial
        have h10 : As C (Γt xi) (Ts ++ [hx v] ++ [hx1 v1] ++ [.hid (.li ((acc1 ++ [dd]).map eb)) (.ref Dd)]) σ3 (vs ++ [v] ++ [v1] ++ [.ref Dd]) (upd H8 Dd (.lst (us5 ++ [yv]))) := by
          refine up (.hid (.li ((acc1 ++ [dd]).map eb)) (.ref Dd)) (.ref Dd) _ F (TF.write mu) (fun b nb _ => upd_ne fun z => nb ((hF5 b).2 z)) ⟨rfl, ?_⟩ (fun b hb => .inl hb) fun b hb => by rw [(hF5 b).1 hb, upd_same]; trivial
          unfold rM
          rw [List.map_append]
          exact ⟨Dd, _, rfl, upd_same, (rd5.app (.one rdy)).tf (TF.write mu), hF5⟩
        exact h10.sig (by rw [ag4.1]) (fun i hi => (ag4.2 i hi).symm) (L.br1 xi) (fun i hi => fr4 v1 _ i (L.sub i hi)) pn1
      | false =>
        show (if false = true then _ else _)
        rw [if_neg Bool.false_ne_true]
        obtain ⟨ho, hw⟩ := L.ff _ _ _ hb hf
        cases ho
        have h8 := h7.wk hw
        exact ⟨acc1, zs2, h8.sig (by rw [ag4.1]) (fun i hi => (ag4.2 i hi).symm) (L.br1 xi) (fun i hi => fr4 v1 _ i (L.sub i hi)) pn1, hn2, by rw [hy1, hz2]⟩
    · obtain rfl : j = (ys xi).length := by omega
      refine .inl ⟨w1.stops H5 gq1, acc1, zs1, ?_, by simpa using hn, hy1⟩
      have hE2 := (hE.swap.pop).wk (L.w0 xi)
      exact hE2.sig (by rw [wipe_length, wipe_length, ag2.1, wipe_length]) (fun i hi => by rw [wipe_out hi, wipe_out (fun z => hi (L.sub i z)), ag2.2 i hi, wipe_out hi]) L.br (fr3 _) L.pn
  · obtain rfl : i = xs.length := by omega
    rw [List.drop_length] at hm
    have hm : some ((), []) = some ((), zs) := hm
    cases hm
    rw [List.append_nil] at hy
    subst hy
    refine .inl ⟨w.stops H2 gq, ?_⟩
    have h7 : As C Γ0 (Ts ++ [.own (.li (out.map eb))]) (wipe σ (own.map (·.2))) (vs ++ [.ref Dd]) H2 := by
      obtain ⟨F, ⟨_, r⟩, up⟩ := hB.top
      have z : As C Γ0 (Ts ++ [hx v] ++ [.own (.li (out.map eb))]) (wipe σ (own.map (·.2))) (vs ++ [v] ++ [.ref Dd]) H2 := up (.own (.li (out.map eb))) (.ref Dd) H2 F TF.refl (fun _ _ _ => rfl) r (fun a ha => .inl ha) fun a ha => rM.mut r ha
      exact z.mid
    exact q (.ref Dd) H2 (h7.sig (wipe_length _ _).symm (fun i hi => (wipe_out hi).symm) L.br (fun i hi => (L.fr i hi).append ⟨trivial, trivial⟩) L.pn)
end
end RL

set_option maxHeartbeats 4000000
/-! RL114: ranges as values; len(set(..)) of tuples of numbers -/
namespace RL
open PySem L2 PySem.Spec PyProof.Rows
section
variable {X : Cx} {C : Cn} {Γ Γ1 : Ctx} {Ts : List T} {a : Expr} {n : Int} {nmp pos : Pos}
end
section
variable {X : Cx} {C : Cn} {Γ : Ctx} {Hs : List T} {tg iter : Expr} {lo n : Int}
end
/-- unlike numbers -/
def dd : List Int → List Int
  | [] => []
  | x :: l => if x ∈ l then dd l else x :: dd l
/-- a test that changes something -/
def tb2 {S : Type} : Option (Bool × S) → Bool
  | some t => t.1
  | none => false
def st2 {S : Type} (s : S) : Option (Bool × S) → S
  | some t => t.2
  | none => s
theorem tb2_t {S : Type} {o : Option (Bool × S)} {t : Bool × S} (h : o = some t) : tb2 o = t.1 := by rw [h] <;> rfl
theorem st2_t {S : Type} {s : S} {o : Option (Bool × S)} {t : Bool × S} (h : o = some t) : st2 s o = t.2 := by rw [h] <;> rfl
section
variable {X : Cx} {C : Cn} {Γ Γ1 : Ctx} {Ts : List T} {a : Expr} {xs : List Int} {p p2 q pos : Pos}
end
end RL

set_option maxHeartbeats 4000000
/-! RL115: dicts of four named parts that never change, read by name -/
namespace RL
open PySem L2 PySem.Spec PyProof.Rows
section
variable {X : Cx} {C : Cn} {Γ Γ1 Γ2 : Ctx} {Ts : List T} {a b : Expr} {pos : Pos} {l : List (Key × D)} {d : D} {s : Str}
end
section
variable {α β γ δ : Type}
variable {k1 k2 k3 k4 : Str} {f1 : α → D} {f2 : β → D} {f3 : γ → D} {f4 : δ → D} {v : α × β × γ × δ} {X : Cx} {C : Cn} {Γ Γ1 Γ2 : Ctx} {Ts : List T} {a b : Expr} {pos : Pos}
end
end RL

set_option maxHeartbeats 4000000
/-! RL116: a lambda without parameters handed to a def; the table of code objects of its maker lies at the bottom of the stack -/
namespace RL
open PySem L2 PySem.Spec PyProof.Rows LamX
/-- the table at P -/
def tabO (P : Addr) (ps : Array Value) : HO := .ext fun h => h.get? P = some { cls := .none, data := .fields ps }
theorem tabO_ok {Pr : Program} {w : World} {H : Hp} {h : Heap} {P : Addr} {ps : Array Value} (e : h.get? P = some { cls := .none, data := .fields ps }) : ObjOk Pr w H h P (tabO P ps) :=
  ⟨e, ⟨_, e⟩, fun h1 h2 a st => st _ a⟩
theorem tabO_get {Pr : Program} {w : World} {H : Hp} {h : Heap} {P : Addr} {ps : Array Value} (ok : HOk Pr w H h) (e : H P = some (tabO P ps)) : h.get? P = some { cls := .none, data := .fields ps } := (ok P _ e).1
/-- the table, what it tells: code objects of the name q -/
def tabM (P : Addr) (q : Str) : M := .ab
  { P := fun _ v H F => v = .ref P ∧ ∃ (ps : Array Value) (cs : List Addr), H P = some (tabO P ps) ∧ TriplesOk ps.toList ∧ (∀ (pos : Pos) (cv : Value), codeAmong pos ps.toList = some cv → ∃ c ∈ cs, cv = .ref c) ∧ (∀ c ∈ cs, H c = some (CodeO c q)) ∧ P ∉ cs ∧ ∀ b, F b ↔ (b = P ∨ b ∈ cs),
    st := fun {K v H H' F} t k h => by
      obtain ⟨e, ps, cs, h1, h2, h3, h4, hn, h5⟩ := h
      exact ⟨e, ps, cs, (k P ((h5 P).mpr (.inl rfl))).trans h1, h2, h3, fun c hc => (k c ((h5 c).mpr (.inr hc))).trans (h4 c hc), hn, h5⟩,
    mu := fun {K v H F a} h f => by
      obtain ⟨e, ps, cs, h1, h2, h3, h4, hn, h5⟩ := h
      rcases (h5 a).mp f with z | z
      · rw [z, h1]; trivial
      · rw [h4 a z]; trivial }
theorem tabM_is {K : PySem.W.Frag} {P : Addr} {q : Str} {v : V} {H : Hp} {F : FS} (h : rM K (tabM P q) v H F) : v = .ref P ∧ ∃ (ps : Array Value) (cs : List Addr), H P = some (tabO P ps) ∧ TriplesOk ps.toList ∧ (∀ (pos : Pos) (cv : Value), codeAmong pos ps.toList = some cv → ∃ c ∈ cs, cv = .ref c) ∧ (∀ c ∈ cs, H c = some (CodeO c q)) ∧ P ∉ cs ∧ ∀ b, F b ↔ (b = P ∨ b ∈ cs) := by
  unfold tabM at h
  unfold rM at h
  exact h
theorem tabM_mk {K : PySem.W.Frag} {P : Addr} {q : Str} {H : Hp} {F : FS} (ps : Array Value) (cs : List Addr) (h1 : H P = some (tabO P ps)) (h2 : TriplesOk ps.toList) (h3 : ∀ (pos : Pos) (cv : Value), codeAmong pos ps.toList = some cv → ∃ c ∈ cs, cv = .ref c)
    (h4 : ∀ c ∈ cs, H c = some (CodeO c q)) (hn : P ∉ cs) (h5 : ∀ b, F b ↔ (b = P ∨ b ∈ cs)) : rM K (tabM P q) (.ref P) H F := by
  unfold tabM
  unfold rM
  exact ⟨rfl, ps, cs, h1, h2, h3, h4, hn, h5⟩
/-- what lies at the bottom is changed -/
theorem As.first {C : Cn} {Γ : Ctx} {Ts : List T} {σ : L2.St} {vs : List V} {H : Hp} {t : T} {v : V} (h : As C Γ (t :: Ts) σ (v :: vs) H) : ∃ F, rT C.K σ t v H F ∧
    ∀ t' v' H' F', TF H H' → (∀ a, ¬ F a → H a ≠ none → H' a = H a) → rT C.K σ t' v' H' F' → (∀ a, F' a → F a ∨ H a = none) → (∀ a, F' a → Mut (H' a)) → As C Γ (t' :: Ts) σ (v' :: vs) H' := by
  obtain ⟨fp, W⟩ := h
  have ln : Ts.length = vs.length := by have := W.ln; simp at this; exact this
  obtain ⟨v1, hv, r⟩ := W.tp 0 t rfl
  have ev : v1 = v := (Option.some.inj hv).symm
  subst ev
  refine ⟨fp (.inr 0), r, fun t' v' H' F' tf k r' n mf => ?_⟩
  obtain ⟨k1, d, s, u, f⟩ := W.at (.inr 0) tf k n mf
  refine ⟨fun y => if y = .inr 0 then F' else fp y, W.lg, by simp [ln], fun j mj q => ?_, fun l tl q => ?_, d, s, u, f, W.pn⟩
  · obtain ⟨v', q1, q2⟩ := W.sl j mj q
    have ne : (Sum.inl j : Sum Nat Nat) ≠ .inr 0 := fun z => nomatch z
    exact ⟨v', q1, by rw [if_neg ne]; exact rM.st tf (k1 _ ne) q2⟩
  · cases l with
    | zero =>
      have e : t' = tl := Option.some.inj q
      subst e
      exact ⟨v', rfl, by rw [if_pos rfl]; exact r'⟩
    | succ l =>
      obtain ⟨v2, q1, q2⟩ := W.tp (l + 1) tl q
      have ne : (Sum.inr (l + 1) : Sum Nat Nat) ≠ .inr 0 := fun z => by have := Sum.inr.inj z; omega
      exact ⟨v2, q1, by rw [if_neg ne]; exact rT.st tf (k1 _ ne) q2⟩
theorem As.cns {C : Cn} {Γ : Ctx} {Ts : List T} {σ : L2.St} {vs : List V} {H : Hp} {t : T} (h : As C Γ (t :: Ts) σ vs H) : ∃ v us, vs = v :: us := by
  obtain ⟨fp, W⟩ := h
  cases vs with
  | nil => have := W.ln; simp at this
  | cons v us => exact ⟨v, us, rfl⟩
/-- the frozen part of what is told -/
def frzL : Ctx → Ctx
  | [] => []
  | some (.im d) :: r => some (.im d) :: frzL r
  | _ :: r => none :: frzL r
theorem frzL_len : ∀ {Γ : Ctx}, (frzL Γ).length = Γ.length
  | [] => rfl
  | some (.im d) :: r => by show (_ :: frzL r).length = _; simp [frzL_len (Γ := r)]
  | none :: r => by show (_ :: frzL r).length = _; simp [frzL_len (Γ := r)]
  | some (.li _) :: r => by show (_ :: frzL r).length = _; simp [frzL_len (Γ := r)]
  | some (.ll _) :: r => by show (_ :: frzL r).length = _; simp [frzL_len (Γ := r)]
  | some (.dk _) :: r => by show (_ :: frzL r).length = _; simp [frzL_len (Γ := r)]
  | some (.dt _ _) :: r => by show (_ :: frzL r).length = _; simp [frzL_len (Γ := r)]
  | some (.ab _) :: r => by show (_ :: frzL r).length = _; simp [frzL_len (Γ := r)]
theorem frzL_get : ∀ {Γ : Ctx} {i : Nat} {m : M}, (frzL Γ)[i]? = some (some m) → ∃ d, m = .im d ∧ Γ[i]? = some (some (.im d))
  | [], i, m, h => by simp [frzL] at h
  | some (.im d) :: r, 0, m, h => by
    have h : some (some (M.im d)) = some (some m) := h
    cases h
    exact ⟨d, rfl, rfl⟩
  | none :: r, 0, m, h => nomatch (show some (none : Option M) = some (some m) from h)
  | some (.li _) :: r, 0, m, h => nomatch (show some (none : Option M) = some (some m) from h)
  | some (.ll _) :: r, 0, m, h => nomatch (show some (none : Option M) = some (some m) from h)
  | some (.dk _) :: r, 0, m, h => nomatch (show some (none : Option M) = some (some m) from h)
  | some (.dt _ _) :: r, 0, m, h => nomatch (show some (none : Option M) = some (some m) from h)
  | some (.ab _) :: r, 0, m, h => nomatch (show some (none : Option M) = some (some m) from h)
  | some (.im d) :: r, i + 1, m, h => frzL_get (Γ := r) (i := i) h
  | none :: r, i + 1, m, h => frzL_get (Γ := r) (i := i) h
  | some (.li _) :: r, i + 1, m, h => frzL_get (Γ := r) (i := i) h
  | some (.ll _) :: r, i + 1, m, h => frzL_get (Γ := r) (i := i) h
  | some (.dk _) :: r, i + 1, m, h => frzL_get (Γ := r) (i := i) h
  | some (.dt _ _) :: r, i + 1, m, h => frzL_get (Γ := r) (i := i) h
  | some (.ab _) :: r, i + 1, m, h => frzL_get (Γ := r) (i := i) h
theorem noio {H : Hp} : ∀ a, e0 a → Mut (H a) := fun _ z => z.elim
theorem As.frozen {C : Cn} {Γ : Ctx} {Ts : List T} {σ : L2.St} {vs : List V} {H HZ : Hp} (h : As C Γ Ts σ vs H) (e : Ext H HZ) : As ⟨C.K, HZ, e0, [], noio⟩ (frzL Γ) [] σ [] HZ := by
  obtain ⟨fp, W⟩ := h
  refine ⟨fun _ => e0, frzL_len.trans W.lg, rfl, fun i m q => ?_, fun k t q => by simp at q, fun _ _ _ => Dj.e0l, fun _ _ z => z.elim, fun _ _ z => z.elim, fun a o q _ => q, fun p hp => nomatch hp⟩
  obtain ⟨d, e1, e2⟩ := frzL_get q
  subst e1
  obtain ⟨v, hv, r⟩ := W.sl i _ e2
  unfold rM at r
  exact ⟨v, hv, by unfold rM; exact ⟨rD.tf e.tf r.1, fun _ z => z⟩⟩
section
variable {X : Cx} {pins : List (Addr × Obj)} {σ : L2.St} {H : Hp} {s : Shared}
/-- the table is written, the code object at c is new and known from now on -/
theorem inv_tabX {P c : Addr} {q : Str} {ps more : Array Value} {h' : Heap} {t' : Nat} (I : Inv X pins σ H s) (hP : H P = some (tabO P ps)) (k : ∀ b o, b ≠ P → s.heap.get? b = some o → h'.get? b = some o)
    (hm : h'.get? P = some { cls := .none, data := .fields (ps ++ more) }) (hc : s.heap.objs.size ≤ c) (ho : ∃ (oc : Obj) (vs : Array Value) (t : Tok), h'.get? c = some oc ∧ oc.data = .fields vs ∧ vs[1]? = some (.str q t)) :
    Inv X pins σ (upd (upd H P (tabO P (ps ++ more))) c (CodeO c q)) { s with heap := h', toks := t' } := by
  have nC : H c = none := I.hok.fresh hc
  have nPc : P ≠ c := ne_of_none hP nC
  have at_ : ∀ b, b ≠ P → b ≠ c → upd (upd H P (tabO P (ps ++ more))) c (CodeO c q) b = H b := fun b h1 h2 => by rw [upd_ne h2, upd_ne h1]
  have nP : ∀ b u, H b = some u → (∀ φ, u ≠ .ext φ) → b ≠ P := fun b u e n z => by
    rw [z, hP] at e
    exact n _ (Option.some.inj e).symm
  have nN : ∀ b, H b = none → b ≠ P := fun b e z => by
    rw [z, hP] at e
    cases e
  have nc : ∀ b u, H b = some u → b ≠ c := fun b u e => ne_of_none e nC
  have old : ∀ b o, s.heap.get? b = some o → b ≠ c := fun b o e z => by
    rw [z] at e
    exact Nat.lt_irrefl _ (Nat.lt_of_lt_of_le (Heap.lt_size e) hc)
  have hold : ∀ b u, H b = some u → (∀ φ, u ≠ .ext φ) → upd (upd H P (tabO P (ps ++ more))) c (CodeO c q) b = some u := fun b u e n => by rw [at_ b (nP b u e n) (nc b u e)]; exact e
  refine I.step (g' := s.gens) (d' := s.drawn) (ch := []) (fun b hb => absurd hb (by simp)) (fun b o _ _ _ e n => k b o (nN b n) e) (fun b o _ _ _ e n => ⟨o.slots, k b o (nN b n) e⟩)
    (fun b o _ e n => by rw [at_ b (nN b n) (old b o e)]; exact n) (fun b o _ e => ?_) (fun b xs e => hold b _ e fun φ z => by cases z) (fun b o u e => hold b _ e fun φ z => by cases z) (fun b qs e => ⟨#[], by rw [hold b _ e (fun φ z => by cases z), Array.append_empty]⟩) (fun m hn => ?_) (fun b u e => ?_) I.bare
  · by_cases hb : b = P
    · rw [hb]; exact ⟨_, hm⟩
    · exact ⟨o, k b o hb e⟩
  · obtain ⟨ob, es, ep, ho', r⟩ := hn
    exact ⟨ob, es, ep, k _ ob (nN _ I.free) ho', r⟩
  · by_cases hb : b = c
    · rw [hb, upd_same] at e
      cases e
      rw [hb]
      obtain ⟨oc, vs, t, e1, e2, e3⟩ := ho
      exact ⟨⟨oc, vs, t, e1, e2, e3⟩, ⟨oc, e1⟩, fun h1 h2 ⟨oc, vs, t, a, b, c⟩ st => ⟨oc, vs, t, st _ a, b, c⟩⟩
    · by_cases hb2 : b = P
      · rw [hb2, upd_ne nPc, upd_same] at e
        cases e
        rw [hb2]
        exact tabO_ok hm
      · rw [at_ b hb2 hb] at e
        refine (I.hok b u e).stay (fun d v hd r => k d v ?_ r) (fun d r => hold d _ r fun φ z => by cases z) fun d xs r => hold d _ r fun φ z => by cases z
        rcases hd with z | z
        · rw [z]; exact hb2
        · exact nP d _ z fun φ z => by cases z
/-- the lambda is made: its code object is new, or found in the table -/
theorem lam_makeX {C : Cn} {Γ : Ctx} {Ts : List T} {vs : List V} {c P : Addr} {params : Arguments} {body : Expr} {scope : Scope} {pos : Pos} {E : Value → Shared → Prop} {Q : Value → Shared → Prop} (I : Inv X pins σ H s) (TB : TabB X.base X.mg c P) (hcode : X.env.code = .ref c)
    (hdef : defaultsOf params X.env = ([], [])) (hfree : ∀ y ∈ scope.names, y.2 = .free → ∃ c, X.env.cells.lookup y.1 = some c) (hA : As C Γ (.own (tabM P (X.env.qual ++ "<lambda>")) :: Ts) σ vs H)
    (h : ∀ (f c' : Addr) (pm ctv : Value) (H1 : Hp) (s' : Shared), Inv X pins σ H1 s' → As C Γ (.own (tabM P (X.env.qual ++ "<lambda>")) :: Ts) σ vs H1 →
      s'.heap.get? f = some (PySem.W.kla_obj "<lambda>" (X.env.qual ++ "<lambda>") params body scope (cloFrom X.env.cells scope.names []) pm c' ctv) → H1 f = none → f ∉ frs X.stack → H1 c' = some (CodeO c' (X.env.qual ++ "<lambda>")) → Q (.ref f) s') :
    wpAny (model X.prog X.w) X.A (eval (.Lambda params body scope pos) X.env) Q E s := by
  obtain ⟨v0, vs', rfl⟩ := hA.cns
  obtain ⟨F, r, up⟩ := hA.first
  obtain ⟨ev, ps, cs, hP, ht, ha, hcs, hPn, hF⟩ := tabM_is r
  subst ev
  refine PySem.W.kla_eval hdef ?_
  have bP : s.heap.BuiltinsAt X.mg P := TB.bm.keeps I.bk
  have hP' : s.heap.get? P = some { cls := .none, data := .fields ps } := tabO_get I.hok hP
  have nofr : ∀ f, s.heap.objs.size ≤ f → f ∉ frs X.stack := fun f hf z => by
    rcases List.mem_cons.mp (I.stkSub _ z) with e | e
    · have h1 := I.lt
      rw [← e] at h1
      exact Nat.lt_irrefl _ (Nat.lt_of_lt_of_le h1 hf)
    · exact I.nofs hf e
  cases hc : codeAmong pos ps.toList with
  | none =>
    refine PySem.W.kla_makeFunction (mg := X.mg) (c := c) (P := P) (ps := ps) (closure_ok hfree) I.ok.glob (I.mod.glob.keeps I.bk) hcode (TB.code.keeps I.bk) hP' ht hc TB.gP bP fun c' ctv h' tk hx hge hlt hrec htb => ?_
    obtain ⟨c2, oc, us, t, e2, hoc, hd, hv⟩ := hrec
    cases e2
    have hsz : s.heap.objs.size ≤ h'.objs.size := Nat.le_trans hge (Nat.le_of_lt hlt)
    have nC : H c' = none := I.hok.fresh hge
    have nPc : P ≠ c' := ne_of_none hP nC
    have I1 := inv_tabX (t' := tk) (more := #[rawInt pos.line, rawInt pos.col, .ref c']) (h' := h'.push (PySem.W.kla_obj "<lambda>" (X.env.qual ++ "<lambda>") params body scope (cloFrom X.env.cells scope.names []) ((X.mg "__name__").getD .none) c' ctv)) I hP
      (fun b o hb e => Heap.get?_push_of_some _ (hx b o hb e)) (Heap.get?_push_of_some _ htb) hge ⟨oc, us, t, Heap.get?_push_of_some _ hoc, hd, hv⟩
    have eL : (ps ++ #[rawInt pos.line, rawInt pos.col, .ref c']).toList = ps.toList ++ [rawInt pos.line, rawInt pos.col, .ref c'] := by simp
    have tf1 : TF H (upd H P (tabO P (ps ++ #[rawInt pos.line, rawInt pos.col, .ref c']))) := TF.write (by rw [hP]; trivial)
    have n2 : upd H P (tabO P (ps ++ #[rawInt pos.line, rawInt pos.col, .ref c'])) c' = none := by rw [upd_ne (Ne.symm nPc)]; exact nC
    have A1 : As C Γ (.own (tabM P (X.env.qual ++ "<lambda>")) :: Ts) σ (.ref P :: vs') (upd (upd H P (tabO P (ps ++ #[rawInt pos.line, rawInt pos.col, .ref c']))) c' (CodeO c' (X.env.qual ++ "<lambda>"))) := by
      have r' : rM C.K (tabM P (X.env.qual ++ "<lambda>")) (.ref P) (upd (upd H P (tabO P (ps ++ #[rawInt pos.line, rawInt pos.col, .ref c']))) c' (CodeO c' (X.env.qual ++ "<lambda>"))) (fun b => b = P ∨ b ∈ c' :: cs) := by
        refine tabM_mk (ps ++ #[rawInt pos.line, rawInt pos.col, .ref c']) (c' :: cs) (by rw [upd_ne nPc, upd_same]) (by rw [eL]; exact PySem.TriplesOk_snoc _ _ _ _ ht) (fun p' cv hcv => ?_) (fun c2 hc2 => ?_) (fun z => (List.mem_cons.mp z).elim nPc hPn) fun b => Iff.rfl
        · rw [eL] at hcv
          rcases among_app _ ht hcv with z | z
          · obtain ⟨c0, e1, e2⟩ := ha p' cv z
            exact ⟨c0, List.mem_cons_of_mem _ e1, e2⟩
          · exact ⟨c', List.mem_cons_self, z⟩
        · by_cases e : c2 = c'
          · rw [e, upd_same]
          · rcases List.mem_cons.mp hc2 with z | z
            · exact absurd z e
            · have e3 : c2 ≠ P := fun e => hPn (e ▸ z)
              rw [upd_ne e, upd_ne e3]
              exact hcs c2 z
      refine up (.own (tabM P (X.env.qual ++ "<lambda>"))) (.ref P) _ (fun b => b = P ∨ b ∈ c' :: cs) (tf1.trans (Ext.new n2).tf) (fun a hF' hn => ?_) r' (fun a ha' => ?_) fun a ha' => rM.mut r' ha'
      · have h1 : a ≠ P := fun z => hF' ((hF a).mpr (.inl z))
        have h2 : a ≠ c' := fun z => hn (by rw [z]; exact nC)
        rw [upd_ne h2, upd_ne h1]
      · rcases ha' with z | z
        · exact .inl ((hF a).mpr (.inl z))
        · rcases List.mem_cons.mp z with z | z
          · exact .inr (by rw [z]; exact nC)
          · exact .inl ((hF a).mpr (.inr z))
    refine h h'.objs.size c' ((X.mg "__name__").getD .none) ctv _ _ I1 A1 (Heap.get?_push_size _ rfl) ?_ (nofr _ hsz) upd_same
    have n1 : h'.objs.size ≠ c' := Nat.ne_of_gt hlt
    have n2 : h'.objs.size ≠ P := Nat.ne_of_gt (Nat.lt_of_lt_of_le (Heap.lt_size hP') hsz)
    rw [upd_ne n1, upd_ne n2]
    exact I.hok.fresh hsz
  | some cv =>
    obtain ⟨c', hc', e⟩ := ha pos cv hc
    subst e
    refine PySem.W.kla_makeFunctionHit (mg := X.mg) (c := c) (P := P) (ps := ps) (closure_ok hfree) I.ok.glob (I.mod.glob.keeps I.bk) hcode (TB.code.keeps I.bk) hP' ht hc bP fun ctv h' tk hx hsz => ?_
    have I1 : Inv X pins σ H { s with heap := h'.push (PySem.W.kla_obj "<lambda>" (X.env.qual ++ "<lambda>") params body scope (cloFrom X.env.cells scope.names []) ((X.mg "__name__").getD .none) c' ctv), toks := tk } := I.kept fun b o e => Heap.get?_push_of_some _ (hx b o e)
    exact h h'.objs.size c' ((X.mg "__name__").getD .none) ctv H _ I1 hA (Heap.get?_push_size _ rfl) (I.hok.fresh hsz) (nofr _ hsz) (hcs c' hc')
end
end RL

set_option maxHeartbeats 4000000
/-! RL117: what a lambda promises; the def that gets it; the maker's call -/
namespace RL
open PySem L2 PySem.Spec PyProof.Rows LamX
/-- what a lambda comes to: it hands back data, or raises -/
def LamEnds (K : PySem.W.Frag) (mg : Str → Option Value) (H : Hp) (Q : VK) (E : XK) : Except Exn D → Prop
  | .ok d => ∀ v H', Ext H H' → rD K d v H' → Q v H'
  | .error x => ∀ cls dd H', Ext H H' → ExnIs K mg x cls dd H' → E cls dd H'
/-- the function object at f, called without arguments at any state behind (H, s) -/
def LamP (P : Program) (w : World) (K : PySem.W.Frag) (mg : Str → Option Value) (base : Heap) (k : Nat) (f : Addr) (fs : List Addr) (H : Hp) (s : Shared) (p : Except Exn D) : Prop :=
  ∀ (s1 : Shared) (HZ : Hp), Un fs [] H HZ s.heap s1.heap → Ext H HZ → PySem.W.FnAt f s1.heap ∧
    ∀ (A : Around) (outer : List Env) (Q : VK) (E : XK), Room k A → A.guards = some [] → Env0 P w K mg base A outer s1 HZ → LamEnds K mg HZ Q E p → codeAny (model P w) A (.call (.ref f) ⟨[], []⟩) (CR (L2.CX P w) outer P w HZ s1 Q E) s1
/-- the lambda's body: it bears d, or raises x -/
def LamB (X : Cx) (mg : Str → Option Value) (C : Cn) (Γ : Ctx) (E : XK) (body : Expr) : Except Exn D → Prop
  | .ok d => EE X C Γ [] body Γ (.im d)
  | .error x => EX X mg C (fun cls d _ H => E cls d H) Γ [] body Γ x
theorem takes_lam {X : Cx} {A : Around} {outer : List Env} {s : Shared} {H : Hp} {E : XK} {scope : Scope} {f c' : Addr} : Takes (lamCx X A outer s H E scope f c') (fun cls d _ H => E cls d H) := takes_of rfl rfl rfl rfl
section
variable {X : Cx} {pins : List (Addr × Obj)} {σ : L2.St} {H : Hp} {s : Shared}
theorem lamP_of {C : Cn} {Γ Γ' : Ctx} {Ts : List T} {vs : List V} {f c' : Addr} {pm ctv : Value} {params : Arguments} {body : Expr} {scope : Scope} {k : Nat} {p : Except Exn D} (I : Inv X pins σ H s) (L : LamS X.env.scope scope)
    (hf : s.heap.get? f = some (PySem.W.kla_obj "<lambda>" (X.env.qual ++ "<lambda>") params body scope (cloFrom X.env.cells scope.names []) pm c' ctv)) (hfn : H f = none) (hfr : f ∉ frs X.stack) (hco : H c' = some (CodeO c' (X.env.qual ++ "<lambda>")))
    (hbind : bindArgs (PySem.W.kla_fn "<lambda>" (X.env.qual ++ "<lambda>") params body scope (cloFrom X.env.cells scope.names []) pm (.ref c') ctv) ⟨[], []⟩ = pure [])
    (hA : As C Γ Ts σ vs H) (hK : C.K = X.K) (hΓ : frzL Γ = Γ')
    (hbody : ∀ (A : Around) (outer : List Env) (s : Shared) (HZ : Hp) (E : XK) (f c' : Addr), Room k (A.deeper (lamEnv X scope s.heap.objs.size f c')) → A.guards = some [] → Takes (lamCx X A outer s HZ E scope f c') (fun cls d _ H => E cls d H) →
      LamB (lamCx X A outer s HZ E scope f c') X.mg ⟨X.K, HZ, e0, [], noio⟩ Γ' E body p) : LamP X.prog X.w X.K X.mg X.base (k + 1) f (frs X.stack) H s p := by
  intro s1 HZ un ext
  have of1 : s1.heap.get? f = some (PySem.W.kla_obj "<lambda>" (X.env.qual ++ "<lambda>") params body scope (cloFrom X.env.cells scope.names []) pm c' ctv) := un.keep f _ hf hfn hfr (fun z => nomatch (show f ∈ ([] : List Addr) from z))
  refine ⟨⟨_, _, _, _, of1⟩, fun A outer Q E hr hg e0' hq => ?_⟩
  obtain ⟨⟨oc, us, t, hoc, hdc, hvc⟩, _, _⟩ := e0'.hok c' _ (ext c' _ hco)
  refine PySem.W.kla_callFunE hr.depth of1 rfl L.co L.gen rfl ⟨c', oc, us, t, rfl, hoc, hdc, hvc⟩ ?_
  rw [hbind]
  refine wpAny_pure (wpAny_newFunctionEnv (fun y hy => (L.own y hy).2) (fun y hy => absurd hy (by simp)) (fun h₁ hns hsb => ⟨?_, ?_⟩) L.kind)
  · have nol : s1.heap.NoLimit := e0'.mod.nolimit.keeps (fun b o z => (e0'.bs b o z).1)
    exact nol.fresh _ hsb
  show codeAny _ _ (.expr body (lamEnv X scope s1.heap.objs.size f c')) _ _
  have kp : ∀ b o, s1.heap.get? b = some o → h₁.get? b = some o := fun b o e => hsb.extBut b o (Nat.ne_of_lt (Heap.lt_size e)) (Heap.get?_push_of_some _ e)
  have J : Inv (lamCx X A outer s1 HZ E scope f c') [] σ HZ { s1 with heap := h₁, toks := s1.toks + ([] : List (Str × Value)).length } := lam_start2 I L e0' hr.hd un hns kp
  have AZ : As ⟨X.K, HZ, e0, [], noio⟩ Γ' [] σ [] HZ := by
    have := hA.frozen ext
    rw [hK, hΓ] at this
    exact this
  have hb := hbody A outer s1 HZ E f c' (hr.deeper _) hg takes_lam
  refine PySem.W.kla_codeExpr (wpAny_mono (Q := fun u s' => ∃ v H', Inv (lamCx X A outer s1 HZ E scope f c') [] σ H' s' ∧ RelV v u ∧ Q v H') ?_ (fun v s' hq => ?_) fun e s' hq => hq)
  · cases p with
    | ok d =>
      have hb : EE (lamCx X A outer s1 HZ E scope f c') ⟨X.K, HZ, e0, [], noio⟩ Γ' [] body Γ' (.im d) := hb
      exact hb.run [] _ _ HZ Q J ⟨[], AZ, fun v H' h' => hq v H' (fun a o e => h'.frm a o e (fun z => z.elim)) h'.topIm⟩
    | error x =>
      have hb : EX (lamCx X A outer s1 HZ E scope f c') X.mg ⟨X.K, HZ, e0, [], noio⟩ (fun cls d _ H => E cls d H) Γ' [] body Γ' x := hb
      exact hb.run [] _ _ HZ Q J ⟨[], AZ, fun cls dd H' h' ex => hq cls dd H' (fun a o e => h'.frm a o e (fun z => z.elim)) ex⟩
  · obtain ⟨w', H', J', rv, q⟩ := hq
    exact ⟨w', H', J'.os, J'.bare, J'.base, J'.hok, rv, q⟩
end
/-! ### the def that gets it -/
def HeardP (P : Program) (w : World) (K : PySem.W.Frag) (mg : Str → Option Value) (base : Heap) (k : Nat) (g : Addr) (fd : FuncData) (a : Str) (p : Except Exn D) (r : M) : Prop :=
  ∀ (A : Around) (outer : List Env) (s : Shared) (H : Hp) (f : Addr) (Q : VK), Room (k + 1) A → A.guards = some [] → Env0 P w K mg base A outer s H → BindsTo s fd ⟨[.ref f], []⟩ ([a].zip [.ref f]) → LamP P w K mg base k f (frs outer) H s p →
    (∀ v H' F', rM K r v H' F' → (∀ a, F' a → H a = none) → Ext H H' → Q v H') → codeAny (model P w) A (.call (.ref g) ⟨[.ref f], []⟩) (CR CX0 outer P w H s Q E0) s
/-- a() within that def -/
def ActR (X : Cx) (mg : Str → Option Value) (C : Cn) (W : WX) (Γ : Ctx) (Ts : List T) (e : Expr) : Except Exn D → Prop
  | .ok d => EE X C Γ Ts e Γ (.im d)
  | .error x => EX X mg C W Γ Ts e Γ x
theorem act_run {P : Program} {w : World} {K : PySem.W.Frag} {mg : Str → Option Value} {base : Heap} {k : Nat} {g f : Addr} {qual a : Str} {sc : Scope} {N : List Str} {cdv : Value} {A : Around} {outer : List Env} {s : Shared} {H : Hp} {E : XK} {p : Except Exn D} {pin : List (Nat × V)}
    (hr : Room k (A.deeper (envOfC qual sc s.heap.objs.size g cdv))) (hG : A.guards = some []) (hL : LamP P w K mg base k f (frs outer) H s p) (hpin : (0, V.ref f) ∈ pin) (hN : N[0]? = some a) (hv : Vis sc a) (hd : (a == ("__debug__" : Str)) = false) (hcd : (a == ("__classdict__" : Str)) = false)
    {W : WX} {pn : List (Addr × Obj)} {xe : Value → Shared → Prop} (tk : Takes ((cxOf CX0 P w K mg base N qual sc g cdv A outer s H E).tr pn xe) W) {Γ : Ctx} {Ts : List T} {p1 p2 : Pos} :
    ActR ((cxOf CX0 P w K mg base N qual sc g cdv A outer s H E).tr pn xe) mg ⟨K, H, e0, pin, noio⟩ W Γ Ts (.Call (.Name a p1) [] [] p2) p := by
  have core : ∀ (pins : List (Addr × Obj)) (sZ : Shared) (σZ : L2.St) (HZ : Hp) (Q : VK) (vs : List V), Inv ((cxOf CX0 P w K mg base N qual sc g cdv A outer s H E).tr pn xe) pins σZ HZ sZ → As ⟨K, H, e0, pin, noio⟩ Γ Ts σZ vs HZ → LamEnds K mg HZ Q (WE W σZ) p →
      wpAny (model P w) (A.deeper (envOfC qual sc s.heap.objs.size g cdv)) (eval (.Call (.Name a p1) [] [] p2) (envOfC qual sc s.heap.objs.size g cdv)) (L2.EP ((cxOf CX0 P w K mg base N qual sc g cdv A outer s H E).tr pn xe) pins σZ Q) xe sZ := by
    intro pins sZ σZ HZ Q vs IZ hAs hq
    have hs : σZ[0]? = some (some (.ref f)) := by
      obtain ⟨fp, W⟩ := hAs
      exact W.pn _ hpin
    refine wpAny_Call_Name_kw (thn ((pe_var (X := (cxOf CX0 P w K mg base N qual sc g cdv A outer s H E).tr pn xe) (pos := p1) (i := 0) hN hv hd hcd).run pins sZ σZ HZ (fun v H1 => v = .ref f ∧ H1 = HZ) IZ ⟨.ref f, hs, rfl, rfl⟩) fun u s1 ⟨v, H1, I1, r1, q1⟩ => ?_)
    obtain ⟨ev, eH⟩ := q1
    subst ev
    rw [eH] at I1
    obtain rfl : u = Value.ref f := r1
    have un : Un (frs outer) [] H HZ s.heap s1.heap := I1.base
    have ext : Ext H HZ := fun a o e => hAs.frm a o e (fun z => z.elim)
    obtain ⟨hf, hgo⟩ := hL s1 HZ un ext
    refine PySem.W.callWith_F0 hf ?_
    refine wpAny_call (codeAny_mono (hgo _ _ Q (WE W σZ) hr hG I1.env0 hq) fun r s' hq => ?_)
    cases r with
    | error e => exact passAt tk σZ pins HZ s1 e s' I1 hq
    | ok fl =>
      cases fl with
      | ret u => exact I1.after hq
      | next => exact False.elim hq
      | brk => exact False.elim hq
      | cont => exact False.elim hq
  cases p with
  | ok d => exact ⟨fun pins sZ σZ HZ Q IZ ⟨vs, hAs, q⟩ => core pins sZ σZ HZ Q vs IZ hAs fun v H' ex rd => q v H' (hAs.pushIm ex rd)⟩
  | error x => exact ⟨fun pins sZ σZ HZ Q IZ ⟨vs, hAs, q⟩ => core pins sZ σZ HZ Q vs IZ hAs fun cls dd H' ex xn => q cls dd H' (hAs.ext ex) xn⟩
theorem heard_body {P : Program} {w : World} {K : PySem.W.Frag} {mg : Str → Option Value} {base : Heap} {k : Nat} {g : Addr} {fd : FuncData} {x qual a : Str} {params : Arguments} {body : List Stmt} {sc : Scope} {N : List Str} {p : Except Exn D} {r : M}
    (F : FunD K x qual params body sc [] [] g fd) (S : FnScope N [a] sc) (hN : N[0]? = some a) (hv : Vis sc a) (hd : (a == ("__debug__" : Str)) = false) (hcd : (a == ("__classdict__" : Str)) = false)
    (hb : ∀ (cdv : Value) (A : Around) (outer : List Env) (s : Shared) (H : Hp) (E : XK) (pin : List (Nat × V)), (∀ p ∈ pin, p.1 ∈ [0]) → Room k (A.deeper (envOfC qual sc s.heap.objs.size g cdv)) → A.guards = some [] →
      (∀ (W : WX) (pn : List (Addr × Obj)) (xe : Value → Shared → Prop), Takes ((cxOf CX0 P w K mg base N qual sc g cdv A outer s H E).tr pn xe) W → ∀ (Γ : Ctx) (Ts : List T) (p1 p2 : Pos), ActR ((cxOf CX0 P w K mg base N qual sc g cdv A outer s H E).tr pn xe) mg ⟨K, H, e0, pin, noio⟩ W Γ Ts (.Call (.Name a p1) [] [] p2) p) →
      ∃ Γr, SS (cxOf CX0 P w K mg base N qual sc g cdv A outer s H E).nox ⟨K, H, e0, pin, noio⟩ [] (List.replicate N.length none) body (.rt Γr r)) :
    HeardP P w K mg base k g fd a p r := by
  obtain ⟨oc, od, dV, kV, doc, pm, an, cdv, ct, osl, rfl, lk, hcode, _, _⟩ := F.ex
  intro A outer s H f Q hr hg e0' hbd hL hq
  have kin : K.In s.heap := e0'.mod.kin.keeps (fun b o z => (e0'.bs b o z).1)
  have nol : s.heap.NoLimit := e0'.mod.nolimit.keeps (fun b o z => (e0'.bs b o z).1)
  have kinds : ∀ y ∈ [a].zip [Value.ref f], sc.names.lookup y.1 = some .local ∨ (sc.names.lookup y.1 = some .cell ∧ ((cellsFrom (s.heap.objs.size + 1) sc.names []).lookup y.1).isSome = true) := by
    rintro ⟨n, v⟩ hy
    exact (S.par n (List.of_mem_zip hy).1).elim .inl fun z => .inr ⟨z, PySem.W.cellsFrom_some _ _ _ (.inl z)⟩
  refine codeAny_call_function hr.depth (kin _ _ lk) rfl S.co S.gen rfl (PySem.W.codeRec_of kin hcode) (hbd _ _ _ _ ?_)
  refine wpAny_newFunctionEnv_cells S.kind kinds fun env he s1 made => ?_
  subst he
  refine ⟨nol.keeps made.toInCall.keep, codeAny_func ?_⟩
  have hr' := hr.deeper (envOfC qual sc s.heap.objs.size g cdv)
  obtain ⟨Γr, hs⟩ := hb cdv A outer s H (fun _ _ _ => False) [(0, .ref f)] (fun p hp => by rw [List.mem_singleton.mp hp]; exact List.mem_singleton.mpr rfl) hr' hg
    (fun W pn xe tk Γ Ts p1 p2 => act_run hr' hg hL (List.mem_singleton.mpr rfl) hN hv hd hcd tk)
  have inv : Inv (cxOf CX0 P w K mg base N qual sc g cdv A outer s H (fun _ _ _ => False)) [] (L2.start N [.ref f]) H s1 := inv_start S hr.hd e0' rfl (.cons rfl .nil) made
  have h1N : 0 < N.length := (List.getElem?_eq_some_iff.mp hN).1
  have hlen : (L2.start N [V.ref f]).length = N.length := by
    unfold L2.start
    rw [List.length_append, List.length_map, List.length_replicate]
    simp
    omega
  have A0 : As ⟨K, H, e0, [(0, .ref f)], noio⟩ (List.replicate N.length none) [] (L2.start N [V.ref f]) [] H := by
    refine ⟨fun _ => e0, by simp [hlen], rfl, fun i m e => ?_, fun k t e => by simp at e, fun x y _ => Dj.e0l, fun x a z => z.elim, fun x a z => z.elim, fun a o e _ => e, fun p hp => ?_⟩
    · rw [List.getElem?_replicate] at e
      split at e <;> cases e
    · rw [List.mem_singleton.mp hp] <;> rfl
  refine wpAny_mono ((PSs.nox hs).run [] s1 (L2.start N [V.ref f]) H { nx := fun _ H' => Q .non H', rt := Q } inv ⟨⟨[], A0⟩, fun σ hs' v H' h' => ?_⟩) (fun fl s' hs => ?_) (fun e s' hs => hs)
  · have l0 : hs' = [] := by
      obtain ⟨fp, W⟩ := h'
      have := W.ln
      simp at this
      exact this
    subst l0
    obtain ⟨F', r', _⟩ := h'.top
    obtain ⟨fp, W⟩ := id h'
    obtain ⟨v1, hv1, r1⟩ := W.tp 0 _ rfl
    have ev : v1 = v := (Option.some.inj hv1).symm
    subst ev
    refine hq _ H' _ r1 (fun b hb => ?_) fun a o e => W.fr a o e (fun z => z.elim)
    rcases W.sn _ b hb with z | z
    · exact z.elim
    · exact z
  · cases fl with
    | next =>
      obtain ⟨σ', H', J, q⟩ := hs
      exact ⟨V.non, H', J.os, J.bare, J.base, J.hok, rfl, q⟩
    | ret u =>
      obtain ⟨v, σ', H', J, rv, q⟩ := hs
      exact ⟨v, H', J.os, J.bare, J.base, J.hok, rv, q⟩
    | brk =>
      obtain ⟨_, _, _, q⟩ := hs
      cases q
    | cont =>
      obtain ⟨_, _, _, q⟩ := hs
      cases q
/-! ### the maker's call -/
theorem ee_heard {X : Cx} {C : Cn} {Γ Γ' : Ctx} {Ts : List T} {x a : Str} {g c P : Addr} {fd : FuncData} {j k : Nat} {params : Arguments} {body : Expr} {scope : Scope} {p : Except Exn D} {r : M} {np lpos pos : Pos} (hH : HeardP X.prog X.w X.K X.mg X.base (k + 1) g fd a p r) (hr : Room j X.A) (hG : X.A.guards = some []) (hjk : k + 2 ≤ j)
    (hm : X.mg x = some (.ref g)) (hk : PySem.W.keepIn X.K (.ref g) = true) (hb : Binds X.K fd [a] []) (TB : TabB X.base X.mg c P) (hcode : X.env.code = .ref c) (L : LamS X.env.scope scope)
    (hbody : ∀ (A : Around) (outer : List Env) (s : Shared) (HZ : Hp) (E : XK) (f c' : Addr), Room k (A.deeper (lamEnv X scope s.heap.objs.size f c')) → A.guards = some [] → Takes (lamCx X A outer s HZ E scope f c') (fun cls d _ H => E cls d H) →
      LamB (lamCx X A outer s HZ E scope f c') X.mg ⟨X.K, HZ, e0, [], noio⟩ Γ' E body p)
    (hΓ : frzL Γ = Γ' := by rfl) (hdef : defaultsOf params X.env = ([], []) := by rfl) (hbind : ∀ (q : Str) (cl : List (Str × Addr)) (pm cv ctv : Value), bindArgs (PySem.W.kla_fn "<lambda>" q params body scope cl pm cv ctv) ⟨[], []⟩ = pure [] := by exact fun _ _ _ _ _ => rfl)
    (hg : Gl X x := by rfl) (hK : C.K = X.K := by rfl) (hdb : (x == ("__debug__" : Str)) = false := by decide) :
    EE X C Γ (.own (tabM P (X.env.qual ++ "<lambda>")) :: Ts) (.Call (.Name x np) [.Lambda params body scope lpos] [] pos) Γ (.own r) := by
  refine ⟨fun pins s σ H Q I ⟨vs, hA, q⟩ => ?_⟩
  refine wpAny_Call_Name_kw (ld_glob I hg hm ?_ hdb)
  refine PySem.W.callWith_K (h₀ := X.base) I.ok.mod.kin hk ?_ (by rfl) (by rfl)
  show wpAny _ _ (spliced ((false, eval (.Lambda params body scope lpos) X.env) :: backTo pos (starEach [] X.env))) _ _ s
  refine Calls.spliced_cons (lam_makeX I TB hcode hdef (L.has I.ok) hA fun f c' pm' ctv H1 s' I1 A1 hf hfn hfr hco => ?_)
  refine Calls.spliced_nil ⟨I1.kIn, ?_⟩
  have hL : LamP X.prog X.w X.K X.mg X.base (k + 1) f (frs X.stack) H1 s' p := lamP_of I1 L hf hfn hfr hco (hbind _ _ _ _ _) A1 hK hΓ hbody
  have rc := hH X.A X.stack s' H1 f Q (hr.mono hjk) hG I1.env0 (by simpa using hb s' [.ref f] I1.kIn rfl) hL (fun v H' F' rr hn ex => q v H' (A1.push ex (t := .own r) (F := F') (by show rM C.K r v H' F'; rw [hK]; exact rr) hn fun b hb => rM.mut rr hb))
  refine wpAny_call (codeAny_mono rc fun r s2 hq => ?_)
  cases r with
  | error e => exact (show False from hq).elim
  | ok fl =>
    cases fl with
    | ret u => exact I1.after hq
    | next => exact False.elim hq
    | brk => exact False.elim hq
    | cont => exact False.elim hq
end RL

set_option maxHeartbeats 4000000
/-! RL118: a law that makes lambdas: its body, its end, its head -/
namespace RL
open PySem L2 PySem.Spec PyProof.Rows LamX
/-- called with ms it hands back r; the table at P is empty before, a table behind -/
def spT (K : PySem.W.Frag) (P : Addr) (n : Nat) (rel : List M → M → Prop) : Sp := fun vs H Q _ => ∃ ms F r, vs.length = n ∧ rMs K ms vs H F ∧ rel ms r ∧ H P = some (tabO P #[]) ∧ ¬ F P ∧ ∀ v H' F', rM K r v H' F' → (∃ ps, H' P = some (tabO P ps)) → Q v H'
theorem fn_bodyT {P : Program} {w : World} {K : PySem.W.Frag} {mg : Str → Option Value} {base : Heap} {k n : Nat} {f c T0 : Addr} {fd : FuncData} {x qual q : Str} {params : Arguments} {body : List Stmt} {sc : Scope} {N ps : List Str} {rel : List M → M → Prop}
    (F : FunD K x qual params body sc [] [] f fd) (hcd : fd.code = .ref c) (S : FnScope N ps sc) (hn : n = ps.length) (hN : n ≤ N.length) (hrel : ∀ ms r, rel ms r → ms.length = n)
    (hb : ∀ (A : Around) (outer : List Env) (s : Shared) (H : Hp) (E : XK) (H0 : Hp) (io : FS) (pin : List (Nat × V)) (mio : ∀ a, io a → Mut (H0 a)), (∀ p ∈ pin, p.1 ∈ ([] : List Nat)) → Room k (A.deeper (PyProof.Rows.envOfC qual sc s.heap.objs.size f (.ref c))) → A.guards = some [] →
      ∀ ms r, rel ms r → ∃ Γr, SS (cxOf CX0 P w K mg base N qual sc f (.ref c) A outer s H E).nox ⟨K, H0, io, pin, mio⟩ [.own (tabM T0 q)] (ms.map some ++ List.replicate (N.length - n) none) body (.rt Γr r)) :
    FnG P w K mg base (k + 1) f fd ps (spT K T0 n rel) := by
  obtain ⟨oc, od, dV, kV, doc, pm, an, cdv, ct, osl, rfl, lk, hcode, _, _⟩ := F.ex
  have hcd : cdv = .ref c := hcd
  subst hcd
  refine FnG.of lk hcode S (fun vs H Q E ⟨_, _, _, e, _⟩ => e.trans hn) fun A outer s H vs Q E hr hg hsp => ?_
  obtain ⟨ms, G, r, hvl, hms, hre, hT, hGT, hQ⟩ := hsp
  have l1 := hrel _ _ hre
  let io : FS := fun b => G b ∨ b = T0
  have mio : ∀ a, io a → Mut (H a) := fun a ha => by
    rcases ha with z | z
    · exact rMs.mut hms z
    · rw [z, hT]; trivial
  obtain ⟨Γr, hs⟩ := hb A outer s H E H io [] mio (fun p hp => nomatch hp) hr hg ms r hre
  refine ⟨_, hs, ?_⟩
  have hst : ∀ i, i < n → (L2.start N vs)[i]? = some (some (vs.getD i .non)) := fun i hi => by
    unfold L2.start
    rw [List.getElem?_append_left (by rw [List.length_map]; omega), List.getElem?_map]
    have : vs[i]? = some vs[i] := List.getElem?_eq_getElem (by omega)
    rw [this, List.getD_eq_getElem?_getD, this] <;> rfl
  have hlen : (L2.start N vs).length = N.length := by
    unfold L2.start
    rw [List.length_append, List.length_map, List.length_replicate]
    omega
  let fT : FS := fun b => b = T0
  let fp : Sum Nat Nat → FS := fun y => if y = .inr 0 then fT else e0
  have fp0 : fp (.inr 0) = fT := if_pos rfl
  have fpn : ∀ y, y ≠ .inr 0 → fp y = e0 := fun y h => if_neg h
  have rT0 : rM K (tabM T0 q) (.ref T0) H fT := tabM_mk #[] [] hT True.intro (fun pos cv hc => by
    have z : codeAmong pos [] = some cv := hc
    simp [codeAmong] at z) (fun c hc => nomatch hc) (fun z => nomatch z) fun b => ⟨.inl, fun z => z.elim id fun z => nomatch z⟩
  have B : AsB ⟨K, H, io, [], mio⟩ (List.replicate N.length none) [.own (tabM T0 q)] (L2.start N vs) [.ref T0] ms vs H fp G := by
    refine ⟨⟨by simp [hlen], rfl, fun i m e => ?_, fun k t e => ?_, fun x y hxy a h1 h2 => ?_, fun x a z => ?_, fun x a z => ?_, fun a o e _ => e, fun p hp => nomatch hp⟩, hms, fun x a h1 h2 => ?_, fun a ha => .inl (.inl ha)⟩
    · rw [List.getElem?_replicate] at e
      split at e <;> cases e
    · cases k with
      | zero =>
        have e : RL.T.own (tabM T0 q) = t := Option.some.inj e
        subst e
        exact ⟨_, rfl, by rw [fp0]; exact rT0⟩
      | succ k => simp at e
    · by_cases hx : x = .inr 0
      · by_cases hy : y = .inr 0
        · exact hxy (hx.trans hy.symm)
        · rw [fpn y hy] at h2; exact h2
      · rw [fpn x hx] at h1; exact h1
    · by_cases hx : x = .inr 0
      · rw [hx, fp0] at z; exact .inl (.inr z)
      · rw [fpn x hx] at z; exact z.elim
    · by_cases hx : x = .inr 0
      · rw [hx, fp0] at z
        rw [show a = T0 from z, hT]; trivial
      · rw [fpn x hx] at z; exact z.elim
    · by_cases hx : x = .inr 0
      · rw [hx, fp0] at h1
        exact hGT (by rw [← show a = T0 from h1]; exact h2)
      · rw [fpn x hx] at h1; exact h1
  have A0 := B.putAll (js := (List.range' 0 ms.length).map some) fun k j hk => by
    rw [List.getElem?_map] at hk
    cases e : (List.range' 0 ms.length)[k]? with
    | none => rw [e] at hk; cases hk
    | some j' =>
      rw [e] at hk
      cases hk
      have hkl : k < ms.length := by
        have := (List.getElem?_eq_some_iff.mp e).1
        simpa using this
      have e2 : k = j := by
        rw [List.getElem?_range' hkl] at e
        have := Option.some.inj e
        omega
      subst e2
      refine ⟨vs.getD k .non, ?_, hst k (by omega)⟩
      have : vs[k]? = some vs[k] := List.getElem?_eq_getElem (by omega)
      rw [List.getD_eq_getElem?_getD, this] <;> rfl
  have e0' := putAll_start ms [] N.length (by omega)
  rw [List.nil_append] at e0'
  have e0'' : putAll (List.replicate N.length none) ((List.range' 0 ms.length).map some) ms = ms.map some ++ List.replicate (N.length - n) none := by
    have z : ([] : Ctx).length = 0 := rfl
    rw [z] at e0'
    rw [e0', l1]
    rfl
  rw [e0''] at A0
  refine ⟨⟨[.ref T0], A0⟩, fun σ hs v H' h' => ?_⟩
  obtain ⟨F', r', _⟩ := h'.top
  have hp : As ⟨K, H, io, [], mio⟩ Γr [.own (tabM T0 q)] σ hs H' := h'.pop
  obtain ⟨v1, us, e⟩ := hp.cns
  subst e
  obtain ⟨F1, r1, _⟩ := hp.first
  obtain ⟨_, ps2, _, h2, _⟩ := tabM_is r1
  exact hQ v H' _ r' ⟨ps2, h2⟩
/-- the law, called as a row calls it -/
theorem lawGT {P : Program} {w : World} {K : PySem.W.Frag} {mg mb : Str → Option Value} {k : Nat} {fa a c T0 : Addr} {fd : FuncData} {x : Str} {sp : Sp} {s1 : Shared} {vs : List Value} {ns : List Int}
    (kin : K.In s1.heap) (hns : s1.heap.Ns mainGlobals mg) (hb : s1.heap.Ns builtinsNs mb) (hbb : ∀ y : Str, y ≠ "__name__" → mb y = bootBuiltins y) (nol : s1.heap.NoLimit) (hgs : s1.gens = #[])
    (hT : s1.heap.get? T0 = some { cls := .none, data := .fields #[] }) (nT : K.lookup T0 = none) (hC : PySem.W.CodeHd s1.heap c T0)
    (hbm : ∃ (bm : Addr) (ob : Obj), mg "__builtins__" = some (.ref bm) ∧ bm ≠ builtinsNs ∧ s1.heap.get? bm = some ob ∧ ob.cls = .type "module" ∧ ob.dict = some builtinsNs ∧ ob.data = .plain)
    (obj : s1.heap.get? a = some { cls := .type "list", data := .seq vs.toArray }) (hin : IntsAre vs ns) (len : ns.length ≤ sizeLine) (room : Room k callerA)
    (F : ∀ base : Heap, K.In base → base.Ns mainGlobals mg → TabB base mg c T0 → FnG P w K mg base k fa fd [x] sp) (bind : ∀ (s : Shared) (u : Value), BindsTo s fd ⟨[u], []⟩ [(x, u)])
    (hsp : ∀ H : Hp, H T0 = some (tabO T0 #[]) → FzL K H a (ns.map V.int) → sp [.ref a] H (fun v H' => v = .bl true ∧ ∃ ps, H' T0 = some (tabO T0 ps)) fun _ _ _ => False) :
    codeAny (model P w) callerA (.call (.ref fa) ⟨[.ref a], []⟩) (fun r s' => r = .ok (.ret (.bool true)) ∧ OldK s1.heap s'.heap ∧ s'.os = s1.os ∧ AllBare s'.gens) s1 := by
  have vals := vals_ints hin
  have vlen := hin.length
  have aT : a ≠ T0 := fun z => by
    rw [z, hT] at obj
    have z' : Data.fields #[] = Data.seq vs.toArray _ := congrArg Obj.data (Option.some.inj obj)
    cases z'
  have go : ∀ H : Hp, H T0 = some (tabO T0 #[]) → (∀ b, b ≠ T0 → H b = none ∨ (b = a ∧ H b = some (.frz { cls := .type "list", data := .seq vs.toArray } (.lst (ns.map V.int))))) → FzL K H a (ns.map V.int) → HOk P w H s1.heap → (H a ≠ none → K.lookup a = none) →
      codeAny (model P w) callerA (.call (.ref fa) ⟨[.ref a], []⟩) (fun r s' => r = .ok (.ret (.bool true)) ∧ OldK s1.heap s'.heap ∧ s'.os = s1.os ∧ AllBare s'.gens) s1 := by
    intro H hTH only fz ok nk
    have free : ∀ {b : Addr} {o : Obj}, s1.heap.get? b = some o → (∀ vs n, o.data ≠ .seq vs n) → o.data ≠ .fields #[] → H b = none := by
      intro b o e h1 h2
      by_cases hb : b = T0
      · rw [hb, hT] at e
        cases e
        exact absurd rfl h2
      · rcases only b hb with z | ⟨z, _⟩
        · exact z
        · rw [z, obj] at e
          cases e
          exact absurd rfl (h1 _ _)
    have dictFree : ∀ {b : Addr} {o : Obj} {es : Array DictEntry} {ep : Nat}, s1.heap.get? b = some o → o.data = .dict es ep → H b = none := fun {b o es ep} e d => free e (fun vs n z => by rw [d] at z; cases z) fun z => by rw [d] at z; cases z
    have nsB : ∀ {b : Addr} {m : Str → Option Value}, s1.heap.Ns b m → (hidT s1.heap H).Ns b m := by
      rintro b m ⟨o, es, ep, e, d, r⟩
      exact ⟨o, es, ep, hidT_get e (dictFree e d), d, r⟩
    have kinB : K.In (hidT s1.heap H) := by
      intro b o e
      refine hidT_get (kin b o e) ?_
      by_cases hb : b = T0
      · rw [hb, nT] at e
        cases e
      · rcases only b hb with z | ⟨z, q⟩
        · exact z
        · subst z
          rw [nk (by rw [q]; simp)] at e
          cases e
    have TB : TabB (hidT s1.heap H) mg c T0 := by
      refine ⟨?_, ?_, fun z => ?_⟩
      · obtain ⟨o, us, file, tf, flags, tg, inF, text, tt, e1, r1, r2, r3, r4, r5, r6, r7, r8, hne⟩ := hC
        refine ⟨o, us, file, tf, flags, tg, inF, text, tt, hidT_get e1 (free e1 (fun vs n z => ?_) fun z => ?_), r1, r2, r3, r4, r5, r6, r7, r8, hne⟩
        · rw [r2] at z
          cases z
        · rw [r2] at z
          cases z
          simp at r3
      · obtain ⟨bm, ob, b1, b2, b3, b4, b5, b6⟩ := hbm
        have nG : bm ≠ mainGlobals := fun q => by
          obtain ⟨o, es, ep, e, hd, _⟩ := hns
          rw [q, e] at b3
          cases b3
          rw [hd] at b6
          cases b6
        have nP : bm ≠ T0 := fun q => by
          rw [q, hT] at b3
          cases b3
          cases b6
        exact ⟨bm, ob, b1, b2, nG, nP, hidT_get b3 (free b3 (fun vs n z => by rw [b6] at z; cases z) fun z => by rw [b6] at z; cases z), b4, b5, b6⟩
      · obtain ⟨o, es, ep, e, hd, _⟩ := hns
        rw [z, hT] at e
        cases e
        cases hd
    have env : Env0 P w K mg (hidT s1.heap H) callerA [] s1 H := by
      refine ⟨rfl, ⟨kinB, nsB hns, ⟨mb, nsB hb, hbb⟩, ?_⟩, fun b o e => of_hidT e, Nat.le_of_eq (hidT_size _ _), trivial, ?_, ok, .of_eq hgs⟩
      · obtain ⟨mc, h1, h2⟩ := nol
        exact ⟨mc, nsB h1, h2⟩
      · intro b hb
        exact absurd (show b ∈ ([] : List Addr) from hb) (by simp)
    refine codeAny_mono ((F _ kinB (nsB hns) TB).go callerA [] s1 H ⟨[.ref a], []⟩ [.ref a] [.ref a] _ _ room rfl env (bind s1 (.ref a)) (.cons rfl .nil) (hsp H hTH fz)) (fun r s' h => ?_)
    match r, h with
    | .error e, h => exact h.elim
    | .ok .next, h => exact h.elim
    | .ok .brk, h => exact h.elim
    | .ok .cont, h => exact h.elim
    | .ok (.ret u), h =>
      obtain ⟨v, H', os, bare, un, ok', rel, q', ps2, hps⟩ := h
      subst q'
      obtain rfl : u = Value.bool true := rel
      have hT2 : s'.heap.get? T0 = some { cls := .none, data := .fields ps2 } := tabO_get ok' hps
      have key : ∀ b o, b ≠ T0 → s1.heap.get? b = some o → s'.heap.get? b = some o := fun b o nb e => by
        rcases only b nb with z | ⟨z, z2⟩
        · exact un.keep b o e z (fun m => absurd (show b ∈ ([] : List Addr) from m) (by simp)) (by simp)
        · have e1 := (ok b _ z2).1
          have e2 := (ok' b _ (un.frzs b _ _ z2)).1
          rw [e] at e1
          cases e1
          exact e2
      refine ⟨rfl, ⟨fun b o e => ?_, fun b o e => ?_⟩, os, bare⟩
      · by_cases hb : b = T0
        · rw [hb] at e ⊢
          rw [hT] at e
          cases e
          exact .inr (.inl ⟨(hC.tab hT).isCodeTable, rfl, #[], ps2, rfl, by rw [Array.empty_append]; exact hT2⟩)
        · exact .inl (key b o hb e)
      · by_cases hb : b = T0
        · rw [hb]; exact ⟨_, hT2⟩
        · exact ⟨o, key b o hb e⟩
  cases hk : K.lookup a with
  | some o =>
    have e := kin a o hk
    rw [obj] at e
    cases e
    refine go (fun b => if b = T0 then some (tabO T0 #[]) else none) (if_pos rfl) (fun b hb => .inl (if_neg hb)) (.inr ⟨_, vs.toArray, _, hk, rfl, rfl, rfl, by rw [List.size_toArray, vlen]; exact len, by simpa using vals⟩) ?_ fun z => absurd (if_neg aT) z
    intro b u z
    by_cases hb : b = T0
    · have z' := (if_pos hb).symm.trans z
      cases z'
      rw [hb]
      exact tabO_ok hT
    · have z' := (if_neg hb).symm.trans z
      cases z'
  | none =>
    refine go (fun b => if b = T0 then some (tabO T0 #[]) else if b = a then some (.frz { cls := .type "list", data := .seq vs.toArray } (.lst (ns.map V.int))) else none) (if_pos rfl) (fun b hb => ?_) (.inl ⟨{ cls := .type "list", data := .seq vs.toArray }, (if_neg aT).trans (if_pos rfl)⟩) ?_ fun _ => hk
    · by_cases e : b = a
      · exact .inr ⟨e, (if_neg hb).trans (if_pos e)⟩
      · exact .inl ((if_neg hb).trans (if_neg e))
    · intro b u z
      by_cases hb : b = T0
      · have z' := (if_pos hb).symm.trans z
        cases z'
        rw [hb]
        exact tabO_ok hT
      · have z1 := (if_neg hb).symm.trans z
        by_cases e : b = a
        · subst e
          have z' := (if_pos rfl).symm.trans z1
          cases z'
          exact ⟨obj, by rw [List.length_map]; exact len, vs, _, vals, obj⟩
        · have z' := (if_neg e).symm.trans z1
          cases z'
/-- what a law has to come to -/
def lawRelT (n : Nat) (f : List Int → Option Bool) : List M → M → Prop := fun ms r => ∃ ns : List Int, ns.length ≤ n ∧ ms = [.im (.lst (ns.map .int))] ∧ f ns = some true ∧ r = .im (.bl true)
/-- the goal that a head leaves -/
theorem walkGT {l : PySem.W.OpenLaw} {n k : Nat} {q : Program} {loose : List Str} {XP : (Str → Option Value) → Heap → Prop} {YP : World → Heap → Prop} {d : DefRec} {x : Str}
    (hn : l.most = some n) (hn2 : n ≤ sizeLine) (hdf : d.params.defaults = []) (room : Room k callerA)
    (F : ∀ (w : World) (mg : Str → Option Value) (fa : Addr) (h : Heap), YP w h → h.Ns mainGlobals mg → mg d.name = some (.ref fa) →
      ∃ (K : PySem.W.Frag) (fd : FuncData) (f : List Int → Option Bool) (c T0 : Addr), K.In h ∧ (∀ (s : Shared) (u : Value), BindsTo s fd ⟨[u], []⟩ [(x, u)]) ∧ (∀ ns : List Int, ns.length ≤ n → f ns = some true) ∧
        h.get? T0 = some { cls := .none, data := .fields #[] } ∧ K.lookup T0 = none ∧ PySem.W.CodeHd h c T0 ∧
        ∀ base : Heap, K.In base → base.Ns mainGlobals mg → TabB base mg c T0 → FnG l.prog w K mg base k fa fd [x] (spT K T0 1 (lawRelT n f))) :
    PySem.W.WalkO q loose XP YP l.row.toRowW d [] (fun f vs => PySem.call f vs) := by
  refine Att.attach_callB hn hdf fun w s₀ s₁ mg mb fa o pm cd doc a vs ns G Y ho hd hcd hmg hobj hints hlen hbits hg => ?_
  obtain ⟨K, fd, f, c, T0, KX, hb, hf, hT, nT, hC, hF⟩ := F w mg fa _ Y G.T.g hmg
  refine lawGT KX G.T.g G.T.b G.T.builtins G.T.nolimit hg hT nT hC G.T.bmain hobj hints (Nat.le_trans hlen hn2) room hF hb fun H hTH fz => ?_
  have aT : a ≠ T0 := fun z => by
    have hobj := hobj
    rw [z, hT] at hobj
    have z' : Data.fields #[] = Data.seq vs.toArray _ := congrArg Obj.data (Option.some.inj hobj)
    cases z'
  refine ⟨[.im (.lst (ns.map .int))], e0, .im (.bl true), rfl, ?_, ⟨ns, hlen, rfl, hf ns hlen, rfl⟩, hTH, fun z => z, fun v H' F' h1 h2 => ⟨?_, h2⟩⟩
  · refine rMs.im (ds := [.lst (ns.map .int)]) (.one ?_) fun _ z => z
    unfold rD
    refine ⟨a, _, rfl, fz, ?_⟩
    clear hf hlen fz hints hbits
    induction ns with
    | nil => show rDs K [] [] H; unfold rDs; rfl
    | cons n ns ih =>
      show rDs K (D.int n :: ns.map D.int) (V.int n :: ns.map V.int) H
      unfold rDs
      exact ⟨_, _, rfl, by unfold rD; rfl, ih⟩
  · unfold rM at h1
    have r := h1.1
    unfold rD at r
    exact r
/-! ### what the top leaves -/
abbrev AlL : Type := AlS × Bool
def obsL (z : PySem.W.Frag → Bool) (iz : List (Str × InitD)) (tf : List He.Defn) (n : Nat) (fa : List He.Fa) (fn : List He.DefD) (g : Addr → Option Obj) : AlL :=
  (obsSI z iz fa fn (He.frT g (sysModules :: cStatics :: He.asD g n)), He.tabsB g tf (He.frT g (sysModules :: cStatics :: He.asD g n)))
structure SaysL (z : PySem.W.Frag → Bool) (iz : List (Str × InitD)) (tf : List He.Defn) (fa : List He.Fa) (fn : List He.DefD) (h : Heap) (K : PySem.W.Frag) : Prop where
  s : SaysSI z iz fa fn K
  hd : ∀ p ∈ tf, PySem.W.codeHdIn K (He.cT K p).1 (He.cT K p).2 = true
  out : ∀ p ∈ tf, K.lookup (He.cT K p).2 = none
  empty : ∀ p ∈ tf, h.get? (He.cT K p).2 = some { cls := .none, data := .fields #[] }
theorem saysL_of {z : PySem.W.Frag → Bool} {iz : List (Str × InitD)} {tf : List He.Defn} {n : Nat} {fa : List He.Fa} {fn : List He.DefD} {h : Heap} (e : obsL z iz tf n fa fn h.get? = (valSI iz fn, true)) : SaysL z iz tf fa fn h (He.frT h.get? (sysModules :: cStatics :: He.asD h.get? n)) := by
  have e1 := congrArg (fun y : AlL => y.1) e
  have e2 : He.tabsB h.get? tf (He.frT h.get? (sysModules :: cStatics :: He.asD h.get? n)) = true := congrArg (fun y : AlL => y.2) e
  have key : ∀ p ∈ tf, PySem.W.codeHdIn (He.frT h.get? (sysModules :: cStatics :: He.asD h.get? n)) (He.cT (He.frT h.get? (sysModules :: cStatics :: He.asD h.get? n)) p).1 (He.cT (He.frT h.get? (sysModules :: cStatics :: He.asD h.get? n)) p).2 = true ∧ ∃ o, h.get? (He.cT (He.frT h.get? (sysModules :: cStatics :: He.asD h.get? n)) p).2 = some o ∧ He.emptyTab o = true := fun p hp => by
    have h3 := List.all_eq_true.mp e2 p hp
    rw [Bool.and_eq_true] at h3
    obtain ⟨h3, h4⟩ := h3
    refine ⟨h3, ?_⟩
    cases q : h.get? (He.cT (He.frT h.get? (sysModules :: cStatics :: He.asD h.get? n)) p).2 with
    | none =>
      rw [q] at h4
      cases h4
    | some o =>
      rw [q] at h4
      exact ⟨o, rfl, h4⟩
  exact ⟨e1, fun p hp => (key p hp).1, fun p hp => by
    obtain ⟨_, o, q, z⟩ := key p hp
    exact He.frT_none q z, fun p hp => by
    obtain ⟨_, o, q, z⟩ := key p hp
    rw [q, He.emptyTab_eq z]⟩
def hookL (z : PySem.W.Frag → Bool) (iz : List (Str × InitD)) (tf : List He.Defn) (n : Nat) (fa : List He.Fa) (fn : List He.DefD) : PySem.W.Hook where
  α := AlL
  obs := fun s => obsL z iz tf n fa fn s.heap.get?
  val := fun _ => (valSI iz fn, true)
  says := fun _ h => ∃ K : PySem.W.Frag, K.In h ∧ SaysL z iz tf fa fn h K
  of := fun _ _ e => ⟨_, He.frT_in, saysL_of e⟩
  keeps := fun _ _ _ ⟨K, hK, c⟩ k => ⟨K, PySem.W.Frag.In.keeps hK k, ⟨c.s, c.hd, c.out, fun p hp => k _ _ (c.empty p hp)⟩⟩
theorem obsL_eq {z : PySem.W.Frag → Bool} {iz : List (Str × InitD)} {tf : List He.Defn} {n : Nat} {fa : List He.Fa} {fn : List He.DefD} {g : Addr → Option Obj} {s : Shared} (h : ∀ a, g a = s.heap.get? a) : obsL z iz tf n fa fn g = (hookL z iz tf n fa fn).obs s := by
  have e : g = s.heap.get? := funext h
  rw [e] <;> rfl
/-- the def's code object -/
theorem code_of {K : PySem.W.Frag} {x qual : Str} {params : Arguments} {body : List Stmt} {scope : Scope} {f : Addr} {fd : FuncData} {p : He.Defn} (F : FunD K x qual params body scope [] [] f fd) (hf : f = He.fAd K p) : fd.code = .ref (He.cT K p).1 := by
  obtain ⟨oc, od, dV, kV, doc, pm, an, cdv, ct, osl, rfl, lk, hcode, _, _⟩ := F.ex
  obtain ⟨c, rfl⟩ := He.codeIn_ref hcode
  subst hf
  show Value.ref c = .ref (He.codeOf K p)
  rw [He.codeOf_eq lk rfl]
end RL

set_option maxHeartbeats 4000000
/-! RL119: isinstance of the caught error, three classes at once -/
namespace RL
open PySem L2 PySem.Spec PyProof.Rows
/-- what a mirror of a raising def says, as data -/
def xmd {R : Type} (g : R → D) : Except Exn R → Except Exn D
  | .ok r => .ok (g r)
  | .error x => .error x
theorem call_isET {X : Cx} {a D : Addr} {oe : Obj} {pn : List (Addr × Obj)} (C : ExcC X.K D) (hz : Zc (.ref D) none oe) (hf : ∃ vs, oe.data = .fields vs) : CallR (X.suite a ((a, oe) :: pn)) (.builtin "isinstance")
    (fun xs H Q => ∃ (tp : Addr) (cs : List V) (ws : List Value) (b : Bool), xs = [.ref a, .ref tp] ∧ H tp = some (.tup cs) ∧ Paired ClsV cs ws ∧ PySem.W.kitAny X.K (.ref D) ws = some b ∧ Q (.bl b) H) := by
  intro pins s σ H xs us Q I r h
  obtain ⟨tp, cs, ws, b, rfl, hT, k, e, q⟩ := h
  obtain ⟨u1, u2, rfl, r1, r2⟩ := vals2 r
  cases (show u2 = Value.ref tp from r2)
  cases (show u1 = Value.ref a from r1)
  obtain ⟨hget, _⟩ := I.pin (a, oe) (List.mem_append.mpr (.inl List.mem_cons_self))
  obtain ⟨vs, hv⟩ := hf
  have J : PySem.W.InstAt s.heap a oe D none := by
    obtain ⟨oc, od, oda, osl⟩ := oe
    obtain ⟨h1, h2⟩ := hz
    dsimp only at h1 h2 hv
    subst h1 h2 hv
    exact ⟨hget, rfl, rfl, trivial⟩
  obtain ⟨_, its, rv, o, h1, h2, n, h3⟩ := (show ObjOk X.prog X.w H s.heap tp (.tup cs) from I.hok tp _ hT)
  have e3 := ClsV.all k rv
  subst e3
  obtain ⟨oc, od, dt, sl⟩ := o
  simp only at h2 h3
  subst h2 h3
  exact PySem.W.kia_tup (PySem.W.handS_kitx_exc C.hg C.hk C.hs C.hd C.ha C.hn C.ht C.hm) I.kIn J h1 e (fun z => nomatch z) fun tk => ⟨.bl b, H, I.kept (t' := tk) fun _ _ z => z, rfl, q⟩
section
variable {X : Cx} {C : Cn} {Γ : Ctx} {Ts : List T} {i : Nat} {a D Y1 Y2 Y3 : Addr} {oe : Obj} {pn : List (Addr × Obj)} {nme : Expr} {y1 y2 y3 : Str} {x1 : Nat} {p p1 p2 p3 tpos pos : Pos}
theorem kit3 {K : PySem.W.Frag} {t c1 c2 c3 : Value} (h1 : PySem.W.kitOne K t c1 = some false) (h2 : PySem.W.kitOne K t c2 = some false) (h3 : PySem.W.kitOne K t c3 = some false) : PySem.W.kitAny K t [c1, c2, c3] = some false :=
  kitAny_cons h1 (fun _ => kitAny_cons h2 (fun _ => kitAny_cons h3 (fun _ => rfl) fun z => nomatch z) fun z => nomatch z) fun z => nomatch z
theorem ee_isExn3 (Te : ExcC X.K D) (hz : Zc (.ref D) none oe) (hf : ∃ vs, oe.data = .fields vs) (hpn : ∃ P, C.pin = (i, .ref a) :: P) (hm : X.mg "isinstance" = none) (hn : PE (X.suite a ((a, oe) :: pn)) nme (tVar i)) (hY1 : X.mg y1 = some (.ref Y1)) (hY2 : X.mg y2 = some (.ref Y2)) (hY3 : X.mg y3 = some (.ref Y3))
    (k1 : PySem.W.kitOne X.K (.ref D) (.ref Y1) = some false) (k2 : PySem.W.kitOne X.K (.ref D) (.ref Y2) = some false) (k3 : PySem.W.kitOne X.K (.ref D) (.ref Y3) = some false)
    (hg : Gl X "isinstance" := by rfl) (hg1 : Gl X y1 := by rfl) (hg2 : Gl X y2 := by rfl) (hg3 : Gl X y3 := by rfl) (hd1 : (y1 == ("__debug__" : Str)) = false := by decide) (hd2 : (y2 == ("__debug__" : Str)) = false := by decide) (hd3 : (y3 == ("__debug__" : Str)) = false := by decide)
    (he : starEach [nme, .Tuple [.Name y1 p1, .Name y2 p2, .Name y3 p3] x1 tpos] X.env = (false, eval nme X.env) :: starEach [.Tuple [.Name y1 p1, .Name y2 p2, .Name y3 p3] x1 tpos] X.env := by rfl)
    (heb : starEach [.Tuple [.Name y1 p1, .Name y2 p2, .Name y3 p3] x1 tpos] X.env = (false, eval (.Tuple [.Name y1 p1, .Name y2 p2, .Name y3 p3] x1 tpos) X.env) :: starEach [] X.env := by rfl)
    (h123 : starEach [.Name y1 p1, .Name y2 p2, .Name y3 p3] X.env = (false, eval (.Name y1 p1) X.env) :: starEach [.Name y2 p2, .Name y3 p3] X.env := by rfl) (h23 : starEach [.Name y2 p2, .Name y3 p3] X.env = (false, eval (.Name y2 p2) X.env) :: starEach [.Name y3 p3] X.env := by rfl) (h33 : starEach [.Name y3 p3] X.env = (false, eval (.Name y3 p3) X.env) :: starEach [] X.env := by rfl)
    (hpl : (backTo pos (starEach [.Tuple [.Name y1 p1, .Name y2 p2, .Name y3 p3] x1 tpos] X.env)).any (·.1) = false := by rfl) :
    EE (X.suite a ((a, oe) :: pn)) C Γ Ts (.Call (.Name "isinstance" p) [nme, .Tuple [.Name y1 p1, .Name y2 p2, .Name y3 p3] x1 tpos] [] pos) Γ (.im (.bl false)) := by
  have g1 : PE (X.suite a ((a, oe) :: pn)) (.Name y1 p1) (tC (.ref Y1)) := pe_glob hg1 hY1 rfl hd1
  have g2 : PE (X.suite a ((a, oe) :: pn)) (.Name y2 p2) (tC (.ref Y2)) := pe_glob hg2 hY2 rfl hd2
  have g3 : PE (X.suite a ((a, oe) :: pn)) (.Name y3 p3) (tC (.ref Y3)) := pe_glob hg3 hY3 rfl hd3
  have gt := L2.pe_tup (x1 := x1) (pos := tpos) (pa_cons g1 (pa_cons g2 (pa_cons g3 pa_nil h33) h23) h123)
  refine (pe_callB (call_isET Te hz hf) hg hm (by decide +kernel) (pa_cons hn (pa_cons gt pa_nil heb) he) (by decide) (by decide) he hpl).wk fun σ H Q ⟨vs, h, q⟩ => ?_
  obtain ⟨P, hP⟩ := hpn
  have hσ : σ[i]? = some (some (.ref a)) := by
    obtain ⟨fp, W⟩ := h
    exact W.pn (i, .ref a) (by rw [hP]; exact List.mem_cons_self)
  refine ⟨.ref a, hσ, ?_⟩
  refine ⟨(show (3 : Nat) ≤ sizeLine by decide), fun pt hpt => ⟨pt, _, [.ref Y1, .ref Y2, .ref Y3], false, rfl, upd_same, .cons (.own _) (.cons (.own _) (.cons (.own _) .nil)), kit3 k1 k2 k3, q _ _ (h.pushIm (Ext.new hpt) (by unfold rD; rfl))⟩⟩
end
end RL

namespace LW
section
open PySem PySem.Spec PyProof.Rows L2 RL
set_option maxHeartbeats 0
def top (i : Nat) : Stmt := PySem.Challenge.pw_roomways_k67_whole_houses_with_a_gate.main.body.getD i (.Pass ⟨0, 0, 0, 0⟩)
abbrev si_TooMany : Stmt := clsStmt (top 7) 0
def ini_TooMany : InitD := ⟨"__init__", "TooMany.__init__", defArgs si_TooMany, defBody si_TooMany, defScope si_TooMany⟩
abbrev s_gated : Stmt := top 9
abbrev s_l_pot : Stmt := top 11
abbrev s_l_of : Stmt := top 12
abbrev s_l_one : Stmt := top 13
abbrev s_l_mixed : Stmt := top 14
abbrev s_l_way : Stmt := top 15
abbrev s_l_door : Stmt := top 16
abbrev s_l_house : Stmt := top 17
abbrev s_l_heard : Stmt := top 18
abbrev s_l_gated : Stmt := top 19
abbrev s_law : Stmt := top 20
def d_gated : He.DefD := ⟨("gated", none), "gated", "gated", defArgs s_gated, defBody s_gated, defScope s_gated, [], []⟩
def d_l_pot : He.DefD := ⟨("_law_pot", none), "_law_pot", "_law_pot", defArgs s_l_pot, defBody s_l_pot, defScope s_l_pot, [], []⟩
def d_l_of : He.DefD := ⟨("_law_of", none), "_law_of", "_law_of", defArgs s_l_of, defBody s_l_of, defScope s_l_of, [], []⟩
def d_l_one : He.DefD := ⟨("_law_one", none), "_law_one", "_law_one", defArgs s_l_one, defBody s_l_one, defScope s_l_one, [], []⟩
def d_l_mixed : He.DefD := ⟨("_law_mixed", none), "_law_mixed", "_law_mixed", defArgs s_l_mixed, defBody s_l_mixed, defScope s_l_mixed, [], []⟩
def d_l_way : He.DefD := ⟨("_law_way", none), "_law_way", "_law_way", defArgs s_l_way, defBody s_l_way, defScope s_l_way, [], []⟩
def d_l_door : He.DefD := ⟨("_law_door", none), "_law_door", "_law_door", defArgs s_l_door, defBody s_l_door, defScope s_l_door, [], []⟩
def d_l_house : He.DefD := ⟨("_law_house", none), "_law_house", "_law_house", defArgs s_l_house, defBody s_l_house, defScope s_l_house, [], []⟩
def d_l_heard : He.DefD := ⟨("_law_heard", none), "_law_heard", "_law_heard", defArgs s_l_heard, defBody s_l_heard, defScope s_l_heard, [], []⟩
def d_l_gated : He.DefD := ⟨("_law_gated", none), "_law_gated", "_law_gated", defArgs s_l_gated, defBody s_l_gated, defScope s_l_gated, [], []⟩
def d_law : He.DefD := ⟨("law", none), "law", "law", defArgs s_law, defBody s_law, defScope s_law, [], []⟩
def fn : List He.DefD := [d_gated, d_l_pot, d_l_of, d_l_one, d_l_mixed, d_l_way, d_l_door, d_l_house, d_l_heard, d_l_gated, d_law]
def fa : List He.Fa := [.glo "gated", .glo "_law_pot", .glo "_law_of", .glo "_law_one", .glo "_law_mixed", .glo "_law_way", .glo "_law_door", .glo "_law_house", .glo "_law_heard", .glo "_law_gated", .glo "law", .free "abs", .free "enumerate", .free "int", .free "isinstance", .free "len", .free "list", .free "range", .free "repr", .free "tuple", .glo "Unfit", .exc "Unfit", .exm "TooMany" "TooMany" true, .exm "Unfit" "Unfit" true, .exm "TooMany" "Unfit" false, .glo "BadHouse", .glo "BadRun", .glo "TooMany", .glo "WayError", .free "super"]
def zf : List (PySem.W.Frag → Bool) := [excBx "TooMany", excBx "Unfit", kitB2 "TooMany" "WayError", kitB2 "Unfit" "WayError", kitBf "Unfit" "BadHouse", kitBf "Unfit" "BadRun", kitBf "Unfit" "TooMany", cstB "MAX_ROOMS" (D.int 6), cstB "MAX_STEPS" (D.int 24), sysB, supB "TooMany" "limit" "/claim/cut.py"]
def zz (K : PySem.W.Frag) : Bool := zf.all fun z => z K
def tf : List He.Defn := [("law", none)]
def iz : List (Str × InitD) := [("TooMany", ini_TooMany)]
abbrev R : PySem.W.OpenRow := PySem.W.OpenLaw.row PySem.Challenge.rw_roomways_k67_whole_houses_with_a_gate
abbrev hk : PySem.W.Hook := hookL zz iz tf 5 fa fn
def ob (s : PySem.W.SharedT) : AlL := obsL zz iz tf 5 fa fn (HandSHeadRun.getT s)
theorem run (w : World) : HandSHeadRun.RunEq R (PySem.W.view R.prog [20]) hk ob 3000 [("MAX_ROOMS" : PySem.Str), ("MAX_STEPS" : PySem.Str), ("WayError" : PySem.Str), ("Unfit" : PySem.Str), ("BadHouse" : PySem.Str), ("BadRun" : PySem.Str), ("TooMany" : PySem.Str), ("gated" : PySem.Str), ("_law_pot" : PySem.Str), ("_law_of" : PySem.Str), ("_law_one" : PySem.Str), ("_law_mixed" : PySem.Str), ("_law_way" : PySem.Str), ("_law_door" : PySem.Str), ("_law_house" : PySem.Str), ("_law_heard" : PySem.Str), ("_law_gated" : PySem.Str)] w := by
  intro os
  kernel_rfl
end
end LW
set_option maxHeartbeats 4000000
namespace LW
open PySem L2 RL
abbrev FnP (K : PySem.W.Frag) (x : Str) (st : Stmt) (f : Addr) (fd : FuncData) : Prop := FunD K x x (defArgs st) (defBody st) (defScope st) [] [] f fd
abbrev tStep := (Str × Int)
instance : DecidableEq tStep := inferInstance
abbrev eStep : tStep → D := (eT2 D.str D.int)
abbrev tWay := (List tStep)
instance : DecidableEq tWay := inferInstance
abbrev eWay : tWay → D := (eTL eStep)
abbrev tRow := (List Str)
instance : DecidableEq tRow := inferInstance
abbrev eRow : tRow → D := (eTL D.str)
abbrev tDoor := ((List tRow) × (List (List Int)))
instance : DecidableEq tDoor := inferInstance
abbrev eDoor : tDoor → D := (eT2 (eTL eRow) (eTL (eTL D.int)))
abbrev tHouse := ((List (Option tDoor)) × (List tWay))
instance : DecidableEq tHouse := inferInstance
abbrev eHouse : tHouse → D := (eT2 (eTL (eO eDoor)) (eTL eWay))
abbrev tPair := (Str × Str)
instance : DecidableEq tPair := inferInstance
abbrev ePair : tPair → D := (eT2 D.str D.str)
/-! ### gated -/
abbrev N_gated : List Str := ["house", "hands", "rooms", "ways", "last", "found", "hand", "way"]
theorem sc_gated : FnScope N_gated ["house", "hands"] (defScope s_gated) := ⟨rfl, rfl, rfl, by decide +kernel, rfl, by decide +kernel, by decide +kernel⟩
def gated_L1 (hands : (List Int)) (last : Int) (s : (List tWay)) (x : (Int × tWay)) : Option (List tWay) := (if (decide ((x.1) ∈ hands)) = true then ((gd (decide ((([(("in" : Str), last)] : tWay)).length + ((x.2)).length ≤ sizeLine))).bind fun p11 => (gd (decide (((([(("in" : Str), last)] : tWay) ++ (x.2))).length + (([(("out" : Str), last)] : tWay)).length ≤ sizeLine))).bind fun p12 => some ((([(("in" : Str), last)] : tWay) ++ (x.2)) ++ ([(("out" : Str), last)] : tWay))) else (some (x.2))).bind fun p13 => (gd (decide ((s).length < sizeLine))).bind fun p14 => some (s ++ [p13])
def gated_m (house : tHouse) (hands : (List Int)) : Option (Except Exn tHouse) := (if (decide ((((house.1)).length : Int) = 6)) = true then (some true) else ((gd (decide (((hands)).length ≤ sizeLine))).bind fun p3 => (lcM (fun (t2 : Unit) (c2 : Int) => (((atI (house.2) c2).bind fun p4 => some (decide ((24 - 2) < ((p4).length : Int))))).bind fun tq => if tq = true then (some ((), some c2)) else some ((), none)) () (hands)).bind fun p5 => some (!(p5.2).isEmpty))).bind fun p6 => if p6 = true then (some (.error ⟨"Unfit", none⟩)) else ((forS (gated_L1 hands (((house.1)).length : Int)) ([] : (List tWay)) (numL (house.2))).bind fun p21 => (gd (decide (((house.1)).length + (([none] : (List (Option tDoor)))).length ≤ sizeLine))).bind fun p22 => some (.ok (((house.1) ++ ([none] : (List (Option tDoor)))), p21)))
abbrev gatedR : List M → M → List M → Prop := fun ms r ms' => ∃ (house : tHouse) (hands : (List Int)) (out : tHouse), gated_m house hands = some (.ok out) ∧ ms = [(.im (eHouse house)), (.im (D.tup ((hands).map D.int)))] ∧ r = (.im (eHouse out)) ∧ ms' = []
abbrev gatedRX : List M → Except Exn M → Prop := fun ms res => ∃ (house : tHouse) (hands : (List Int)) (out : Except Exn tHouse), gated_m house hands = some out ∧ ms = [(.im (eHouse house)), (.im (D.tup ((hands).map D.int)))] ∧ res = xmp (fun (r : tHouse) => (.im (eHouse r))) out
theorem gated_ok {P : Program} {w : World} {K : PySem.W.Frag} {mg : Str → Option Value} {base : Heap} {f : Addr} {fd : FuncData} (F : FnP K "gated" s_gated f fd) {c_Unfit : Addr} (s_MAX_ROOMS : CstF K mg "MAX_ROOMS" (D.int 6)) (s_MAX_STEPS : CstF K mg "MAX_STEPS" (D.int 24)) (x_Unfit : ExcF K mg "Unfit" c_Unfit) (g_enumerate : mg "enumerate" = none) (g_len : mg "len" = none) (g_tuple : mg "tuple" = none) : FnX P w K mg base 1 f fd ["house", "hands"] (spX K mg 2 gatedRX) := by
  refine fnx_body (k := 0) F sc_gated rfl (by decide) (by rintro ms r ⟨house, hands, out, _, rfl, _⟩; rfl) ?_
  rintro cdv A outer s H E H0 io pin mio hpin hr hG tk ms r ⟨house, hands, out, h, rfl, rfl⟩
  refine ⟨[none, none, none, none, none, none, none, none], ?_⟩
  unfold gated_m at h
  refine xl_in ?_
  refine xl_cons (Γ1 := [some (.im (eHouse house)), some (.im (D.tup ((hands).map D.int))), some (.im (D.tup (((house.1)).map (eO eDoor)))), some (.im (D.tup (((house.2)).map eWay))), none, none, none, none]) (s_unp (Γ1 := [some (.im (eHouse house)), some (.im (D.tup ((hands).map D.int))), none, none, none, none, none, none]) (J := [2, 3]) (ee_var 0 (pv 0)) (gt_tup rfl (gts_cons (gt_name 2 sc_gated.nd rfl (by first | exact Or.inl rfl | exact Or.inr rfl) (np1 hpin (by decide)) trivial (by decide)) (gts_cons (gt_name 3 sc_gated.nd rfl (by first | exact Or.inl rfl | exact Or.inr rfl) (np1 hpin (by decide)) trivial (by decide)) gts_nil)))) ?_
  refine xl_cons (Γ1 := [some (.im (eHouse house)), some (.im (D.tup ((hands).map D.int))), some (.im (D.tup (((house.1)).map (eO eDoor)))), some (.im (D.tup (((house.2)).map eWay))), some (.im (D.int (((house.1)).length : Int))), none, none, none]) (s_set (Γ1 := [some (.im (eHouse house)), some (.im (D.tup ((hands).map D.int))), some (.im (D.tup (((house.1)).map (eO eDoor)))), some (.im (D.tup (((house.2)).map eWay))), none, none, none, none]) (m := (.im (D.int (((house.1)).length : Int)))) 4 sc_gated.nd rfl (by first | exact Or.inl rfl | exact Or.inr rfl) (np1 hpin (by decide)) (ee_lenTE (enc := (eO eDoor)) g_len (ee_var 2 (pv 2))) trivial) ?_
  obtain ⟨p6, hp6, h_⟩ := bsplit h; replace h := h_; clear h_
  rcases Bool.eq_false_or_eq_true (p6) with hk7 | hk7
  · replace h := (if_t hk7).symm.trans h
    refine xl_ift (ET.ofW (ew_or (Γ' := [some (.im (eHouse house)), some (.im (D.tup ((hands).map D.int))), some (.im (D.tup (((house.1)).map (eO eDoor)))), some (.im (D.tup (((house.2)).map eWay))), some (.im (D.int (((house.1)).length : Int))), none, none, none]) (k := p6) (et_eqI (ee_var 4 (pv 4)) (ee_glob s_MAX_ROOMS)) (fun hk => by
            have e1 := (if_f hk).symm.trans hp6; obtain ⟨p3, hp3, e1_⟩ := bsplit e1; replace e1 := e1_; clear e1_; obtain ⟨p5, hp5, e1_⟩ := bsplit e1; replace e1 := e1_; clear e1_; replace e1 := Option.some.inj e1; subst e1; refine (ew_or1 (et_neNilE (enc := D.int) hr.units ?_ .own (oks_map _ fun _ _ => rfl))); exact (ee_lc/-n-/ (s1 := p5.1) (ys := p5.2) (f := (fun (t2 : Unit) (c2 : Int) => (((atI (house.2) c2).bind fun p4 => some (decide ((24 - 2) < ((p4).length : Int))))).bind fun tq => if tq = true then (some ((), some c2)) else some ((), none))) (enc := D.int) (eb := D.int) (xs := (hands)) (s0 := ()) (hx := (fun v => .hid (.im (.tup ((hands).map D.int))) v)) (cond := (fun _ => True)) (Γs := fun (t2 : Unit) => [some (.im (eHouse house)), some (.im (D.tup ((hands).map D.int))), some (.im (D.tup (((house.1)).map (eO eDoor)))), some (.im (D.tup (((house.2)).map eWay))), some (.im (D.int (((house.1)).length : Int))), none, none, none]) (Γt := fun (t2 : Unit) (c2 : Int) => [some (.im (eHouse house)), some (.im (D.tup ((hands).map D.int))), some (.im (D.tup (((house.1)).map (eO eDoor)))), some (.im (D.tup (((house.2)).map eWay))), some (.im (D.int (((house.1)).length : Int))), none, some (.im (D.int c2)), none]) (Γu := fun (t2 : Unit) (c2 : Int) => [some (.im (eHouse house)), some (.im (D.tup ((hands).map D.int))), some (.im (D.tup (((house.1)).map (eO eDoor)))), some (.im (D.tup (((house.2)).map eWay))), some (.im (D.int (((house.1)).length : Int))), none, some (.im (D.int c2)), none]) (tb := (fun t2 c2 => tbo ((atI (house.2) c2).bind fun p4 => some (decide ((24 - 2) < ((p4).length : Int)))))) rfl sc_gated.nd (blkOk_by (own := [("hand", 6)]) (N := N_gated) (sc := defScope s_gated) (by decide +kernel))
   { fx := Fix.hid, it := it_wk (Γ1 := [some (.im (eHouse house)), some (.im (D.tup ((hands).map D.int))), some (.im (D.tup (((house.1)).map (eO eDoor)))), some (.im (D.tup (((house.2)).map eWay))), some (.im (D.int (((house.1)).length : Int))), none, none, none]) (it_tup (ee_var 1 (pv 1))) ⟨rfl, ⟨rfl, ⟨rfl, ⟨rfl, ⟨rfl, trivial⟩⟩⟩⟩⟩, cd := fun _ => trivial, gt := fun s H Ca cl fp v q acc t2 c2 => (gt_name 6 sc_gated.nd rfl (by first | exact Or.inl rfl | exact Or.inr rfl) (np1 hpin (by decide)) ⟨trivial, ⟨trivial, trivial⟩⟩ (by decide)), tt := fun s H Ca cl fp v q acc t2 c2 ⟨rq, hrq⟩ => by
            obtain ⟨t, ht, hrq⟩ := bsplit hrq; have hz : tbo ((atI (house.2) c2).bind fun p4 => some (decide ((24 - 2) < ((p4).length : Int)))) = t := tbo_t ht; obtain ⟨p4, hp4, ht_⟩ := bsplit ht; replace ht := ht_; clear ht_; replace ht := Option.some.inj ht; subst ht; rw [hz]; exact (tests1 (et_gt (ee_lenTE (enc := eStep) g_len (ee_ixTE (enc := eWay) (ee_var 3 (pv 3)) (ee_var 6 (pv 6)) hp4)) (ee_sub (ee_glob s_MAX_STEPS) ee_int))),
        el := fun s H Ca cl fp v q acc t2 c2 st' y hk hf => by
            obtain ⟨tq, ht, hf_⟩ := bsplit hf; replace hf := hf_; clear hf_; have hk : tq = true := (tbo_t ht).symm.trans hk; replace hf := (if_t hk).symm.trans hf; obtain ⟨hf1, hf2⟩ := Prod.mk.inj (Option.some.inj hf); subst hf1; replace hf2 := Option.some.inj hf2; subst hf2; exact ee_wk (Γ1 := [some (.im (eHouse house)), some (.im (D.tup ((hands).map D.int))), some (.im (D.tup (((house.1)).map (eO eDoor)))), some (.im (D.tup (((house.2)).map eWay))), some (.im (D.int (((house.1)).length : Int))), none, some (.im (D.int c2)), none]) (ee_var 6 (pv 6)) ⟨rfl, ⟨rfl, ⟨rfl, ⟨rfl, ⟨rfl, trivial⟩⟩⟩⟩⟩,
        ft := fun t2 c2 r hk hf => by
            obtain ⟨tq, ht, hf_⟩ := bsplit hf; replace hf := hf_; clear hf_; have hk : tq = true := (tbo_t ht).symm.trans hk; replace hf := (if_t hk).symm.trans hf; cases hf; exact ⟨_, rfl⟩,
        ff := fun t2 c2 r hk hf => by obtain ⟨tq, ht, hf_⟩ := bsplit hf; replace hf := hf_; clear hf_; have hk : tq = false := (tbo_t ht).symm.trans hk; replace hf := (if_f hk).symm.trans hf; cases hf; exact ⟨rfl, ⟨rfl, ⟨rfl, ⟨rfl, ⟨rfl, ⟨rfl, trivial⟩⟩⟩⟩⟩⟩, br := fun _ => (bare_cons rfl bare_nil), fr := (freeJ_cons trivial freeJ_nil), fh := fun v => (freeJ_cons ⟨trivial, trivial⟩ freeJ_nil), pn := pnJ hpin (by decide), ln := (gd_d hp3) }
   hp5)) (fun hk => by have hq := (if_t hk).symm.trans hp6; cases hq; exact ⟨rfl, rfl⟩))) hk7 ?_
    replace h := Option.some.inj h
    subst h
    exact xl_raise (xs_wk (Γ1 := [some (.im (eHouse house)), some (.im (D.tup ((hands).map D.int))), some (.im (D.tup (((house.1)).map (eO eDoor)))), some (.im (D.tup (((house.2)).map eWay))), some (.im (D.int (((house.1)).length : Int))), none, none, none]) (xs_raiseF rfl tk x_Unfit) trivial)
  · replace h := (if_f hk7).symm.trans h
    refine xl_iff (ET.ofW (ew_or (Γ' := [some (.im (eHouse house)), some (.im (D.tup ((hands).map D.int))), some (.im (D.tup (((house.1)).map (eO eDoor)))), some (.im (D.tup (((house.2)).map eWay))), some (.im (D.int (((house.1)).length : Int))), none, none, none]) (k := p6) (et_eqI (ee_var 4 (pv 4)) (ee_glob s_MAX_ROOMS)) (fun hk => by
            have e1 := (if_f hk).symm.trans hp6; obtain ⟨p3, hp3, e1_⟩ := bsplit e1; replace e1 := e1_; clear e1_; obtain ⟨p5, hp5, e1_⟩ := bsplit e1; replace e1 := e1_; clear e1_; replace e1 := Option.some.inj e1; subst e1; refine (ew_or1 (et_neNilE (enc := D.int) hr.units ?_ .own (oks_map _ fun _ _ => rfl))); exact (ee_lc/-n-/ (s1 := p5.1) (ys := p5.2) (f := (fun (t2 : Unit) (c2 : Int) => (((atI (house.2) c2).bind fun p4 => some (decide ((24 - 2) < ((p4).length : Int))))).bind fun tq => if tq = true then (some ((), some c2)) else some ((), none))) (enc := D.int) (eb := D.int) (xs := (hands)) (s0 := ()) (hx := (fun v => .hid (.im (.tup ((hands).map D.int))) v)) (cond := (fun _ => True)) (Γs := fun (t2 : Unit) => [some (.im (eHouse house)), some (.im (D.tup ((hands).map D.int))), some (.im (D.tup (((house.1)).map (eO eDoor)))), some (.im (D.tup (((house.2)).map eWay))), some (.im (D.int (((house.1)).length : Int))), none, none, none]) (Γt := fun (t2 : Unit) (c2 : Int) => [some (.im (eHouse house)), some (.im (D.tup ((hands).map D.int))), some (.im (D.tup (((house.1)).map (eO eDoor)))), some (.im (D.tup (((house.2)).map eWay))), some (.im (D.int (((house.1)).length : Int))), none, some (.im (D.int c2)), none]) (Γu := fun (t2 : Unit) (c2 : Int) => [some (.im (eHouse house)), some (.im (D.tup ((hands).map D.int))), some (.im (D.tup (((house.1)).map (eO eDoor)))), some (.im (D.tup (((house.2)).map eWay))), some (.im (D.int (((house.1)).length : Int))), none, some (.im (D.int c2)), none]) (tb := (fun t2 c2 => tbo ((atI (house.2) c2).bind fun p4 => some (decide ((24 - 2) < ((p4).length : Int)))))) rfl sc_gated.nd (blkOk_by (own := [("hand", 6)]) (N := N_gated) (sc := defScope s_gated) (by decide +kernel))
   { fx := Fix.hid, it := it_wk (Γ1 := [some (.im (eHouse house)), some (.im (D.tup ((hands).map D.int))), some (.im (D.tup (((house.1)).map (eO eDoor)))), some (.im (D.tup (((house.2)).map eWay))), some (.im (D.int (((house.1)).length : Int))), none, none, none]) (it_tup (ee_var 1 (pv 1))) ⟨rfl, ⟨rfl, ⟨rfl, ⟨rfl, ⟨rfl, trivial⟩⟩⟩⟩⟩, cd := fun _ => trivial, gt := fun s H Ca cl fp v q acc t2 c2 => (gt_name 6 sc_gated.nd rfl (by first | exact Or.inl rfl | exact Or.inr rfl) (np1 hpin (by decide)) ⟨trivial, ⟨trivial, trivial⟩⟩ (by decide)), tt := fun s H Ca cl fp v q acc t2 c2 ⟨rq, hrq⟩ => by
            obtain ⟨t, ht, hrq⟩ := bsplit hrq; have hz : tbo ((atI (house.2) c2).bind fun p4 => some (decide ((24 - 2) < ((p4).length : Int)))) = t := tbo_t ht; obtain ⟨p4, hp4, ht_⟩ := bsplit ht; replace ht := ht_; clear ht_; replace ht := Option.some.inj ht; subst ht; rw [hz]; exact (tests1 (et_gt (ee_lenTE (enc := eStep) g_len (ee_ixTE (enc := eWay) (ee_var 3 (pv 3)) (ee_var 6 (pv 6)) hp4)) (ee_sub (ee_glob s_MAX_STEPS) ee_int))),
        el := fun s H Ca cl fp v q acc t2 c2 st' y hk hf => by
            obtain ⟨tq, ht, hf_⟩ := bsplit hf; replace hf := hf_; clear hf_; have hk : tq = true := (tbo_t ht).symm.trans hk; replace hf := (if_t hk).symm.trans hf; obtain ⟨hf1, hf2⟩ := Prod.mk.inj (Option.some.inj hf); subst hf1; replace hf2 := Option.some.inj hf2; subst hf2; exact ee_wk (Γ1 := [some (.im (eHouse house)), some (.im (D.tup ((hands).map D.int))), some (.im (D.tup (((house.1)).map (eO eDoor)))), some (.im (D.tup (((house.2)).map eWay))), some (.im (D.int (((house.1)).length : Int))), none, some (.im (D.int c2)), none]) (ee_var 6 (pv 6)) ⟨rfl, ⟨rfl, ⟨rfl, ⟨rfl, ⟨rfl, trivial⟩⟩⟩⟩⟩,
        ft := fun t2 c2 r hk hf => by
            obtain ⟨tq, ht, hf_⟩ := bsplit hf; replace hf := hf_; clear hf_; have hk : tq = true := (tbo_t ht).symm.trans hk; replace hf := (if_t hk).symm.trans hf; cases hf; exact ⟨_, rfl⟩,
        ff := fun t2 c2 r hk hf => by obtain ⟨tq, ht, hf_⟩ := bsplit hf; replace hf := hf_; clear hf_; have hk : tq = false := (tbo_t ht).symm.trans hk; replace hf := (if_f hk).symm.trans hf; cases hf; exact ⟨rfl, ⟨rfl, ⟨rfl, ⟨rfl, ⟨rfl, ⟨rfl, trivial⟩⟩⟩⟩⟩⟩, br := fun _ => (bare_cons rfl bare_nil), fr := (freeJ_cons trivial freeJ_nil), fh := fun v => (freeJ_cons ⟨trivial, trivial⟩ freeJ_nil), pn := pnJ hpin (by decide), ln := (gd_d hp3) }
   hp5)) (fun hk => by have hq := (if_t hk).symm.trans hp6; cases hq; exact ⟨rfl, rfl⟩))) hk7 ?_
    refine xl_pop ?_
    refine xl_cons (Γ1 := [some (.im (eHouse house)), some (.im (D.tup ((hands).map D.int))), some (.im (D.tup (((house.1)).map (eO eDoor)))), some (.im (D.tup (((house.2)).map eWay))), some (.im (D.int (((house.1)).length : Int))), some (.li ((([] : (List tWay))).map eWay)), none, none]) (s_set (Γ1 := [some (.im (eHouse house)), some (.im (D.tup ((hands).map D.int))), some (.im (D.tup (((house.1)).map (eO eDoor)))), some (.im (D.tup (((house.2)).map eWay))), some (.im (D.int (((house.1)).length : Int))), none, none, none]) (m := (.li ((([] : (List tWay))).map eWay))) 5 sc_gated.nd rfl (by first | exact Or.inl rfl | exact Or.inr rfl) (np1 hpin (by decide)) (ee_lst (ds := []) ea_nil (show 0 ≤ 1000 by decide)) trivial) ?_
    obtain ⟨p21, hp21, h_⟩ := bsplit h; replace h := h_; clear h_
    refine xl_cons (Γ1 := [some (.im (eHouse house)), some (.im (D.tup ((hands).map D.int))), some (.im (D.tup (((house.1)).map (eO eDoor)))), some (.im (D.tup (((house.2)).map eWay))), some (.im (D.int (((house.1)).length : Int))), some (.li ((p21).map eWay)), none, none]) (s_for (J := [6, 7]) (enc := (encI eWay)) (xs := (numL (house.2))) (hx := (fun v => .hid (.im (.tup (((house.2)).map eWay))) v)) (cond := (fun _ => True)) (f := (gated_L1 hands (((house.1)).length : Int))) (s0 := ([] : (List tWay))) (Γs := fun (s8 : (List tWay)) => [some (.im (eHouse house)), some (.im (D.tup ((hands).map D.int))), some (.im (D.tup (((house.1)).map (eO eDoor)))), some (.im (D.tup (((house.2)).map eWay))), some (.im (D.int (((house.1)).length : Int))), some (.li ((s8).map eWay)), none, none]) (Γt := fun (s8 : (List tWay)) (x8 : (Int × tWay)) => [some (.im (eHouse house)), some (.im (D.tup ((hands).map D.int))), some (.im (D.tup (((house.1)).map (eO eDoor)))), some (.im (D.tup (((house.2)).map eWay))), some (.im (D.int (((house.1)).length : Int))), some (.li ((s8).map eWay)), some (.im (D.int (x8.1))), some (.im (D.tup (((x8.2)).map eStep)))]) rfl Fix.hid (it_wk (Γ1 := [some (.im (eHouse house)), some (.im (D.tup ((hands).map D.int))), some (.im (D.tup (((house.1)).map (eO eDoor)))), some (.im (D.tup (((house.2)).map eWay))), some (.im (D.int (((house.1)).length : Int))), some (.li ((([] : (List tWay))).map eWay)), none, none]) (by rw [← enumD_map]; exact it_enumT g_enumerate (ee_var 3 (pv 3))) ⟨rfl, ⟨rfl, ⟨rfl, ⟨rfl, ⟨rfl, ⟨rfl, trivial⟩⟩⟩⟩⟩⟩) (fun _ => trivial) ?_ ?_ hp21) ?_
    · intro v8 s8 x8
      exact (gt_tup rfl (gts_cons (gt_name 6 sc_gated.nd rfl (by first | exact Or.inl rfl | exact Or.inr rfl) (np1 hpin (by decide)) ⟨trivial, trivial⟩ (by decide)) (gts_cons (gt_name 7 sc_gated.nd rfl (by first | exact Or.inl rfl | exact Or.inr rfl) (np1 hpin (by decide)) ⟨trivial, trivial⟩ (by decide)) gts_nil)))
    · intro v8 s8 x8 s_8 hf8
      unfold gated_L1 at hf8
      refine sl_in ?_
      obtain ⟨p19, hp19, hf8_⟩ := bsplit hf8; replace hf8 := hf8_; clear hf8_
      obtain ⟨p20, hp20, hf8_⟩ := bsplit hf8; replace hf8 := hf8_; clear hf8_
      refine sl_cons (Γ1 := [some (.im (eHouse house)), some (.im (D.tup ((hands).map D.int))), some (.im (D.tup (((house.1)).map (eO eDoor)))), some (.im (D.tup (((house.2)).map eWay))), some (.im (D.int (((house.1)).length : Int))), some (.li (((s8 ++ [p19])).map eWay)), some (.im (D.int (x8.1))), some (.im (D.tup (((x8.2)).map eStep)))]) (s_expr (t := .own (.im D.non)) (ee_appendE (Γ1 := [some (.im (eHouse house)), some (.im (D.tup ((hands).map D.int))), some (.im (D.tup (((house.1)).map (eO eDoor)))), some (.im (D.tup (((house.2)).map eWay))), some (.im (D.int (((house.1)).length : Int))), some (.li ((s8).map eWay)), some (.im (D.int (x8.1))), some (.im (D.tup (((x8.2)).map eStep)))]) (enc := eWay) (x := p19) 5 (pv 5) rfl (ee_if (t := .own (.im (D.tup ((p19).map eStep)))) (Γ' := [some (.im (eHouse house)), some (.im (D.tup ((hands).map D.int))), some (.im (D.tup (((house.1)).map (eO eDoor)))), some (.im (D.tup (((house.2)).map eWay))), some (.im (D.int (((house.1)).length : Int))), some (.li ((s8).map eWay)), some (.im (D.int (x8.1))), some (.im (D.tup (((x8.2)).map eStep)))]) (et_inI (ee_var 6 (pv 6)) (ee_var 1 (pv 1)) .t) (fun hk => by
            have e15 := (if_t hk).symm.trans hp19; obtain ⟨p17, hp17, e15_⟩ := bsplit e15; replace e15 := e15_; clear e15_; obtain ⟨p18, hp18, e15_⟩ := bsplit e15; replace e15 := e15_; clear e15_; replace e15 := Option.some.inj e15; subst e15; exact (ee_catTE (enc := eStep) (xs := (([(("in" : Str), (((house.1)).length : Int))] : tWay) ++ (x8.2))) (ys := ([(("out" : Str), (((house.1)).length : Int))] : tWay)) (ee_catTE (enc := eStep) (xs := ([(("in" : Str), (((house.1)).length : Int))] : tWay)) (ys := (x8.2)) (ee_tup (ds := [(eStep (("in" : Str), (((house.1)).length : Int)))]) (ea_cons (ee_tup (ds := [(D.str ("in" : Str)), (D.int (((house.1)).length : Int))]) (ea_cons ee_str (ea_cons (ee_var 4 (pv 4)) ea_nil)) (show 2 ≤ 1000 by decide)) ea_nil) (show 1 ≤ 1000 by decide)) (ee_var 7 (pv 7)) (gd_d hp17)) (ee_tup (ds := [(eStep (("out" : Str), (((house.1)).length : Int)))]) (ea_cons (ee_tup (ds := [(D.str ("out" : Str)), (D.int (((house.1)).length : Int))]) (ea_cons ee_str (ea_cons (ee_var 4 (pv 4)) ea_nil)) (show 2 ≤ 1000 by decide)) ea_nil) (show 1 ≤ 1000 by decide)) (gd_d hp18))) (fun hk => by
            have e16 := (if_f hk).symm.trans hp19; replace e16 := Option.some.inj e16; subst e16; exact (ee_var 7 (pv 7)))) rfl (gd_d hp20))) ?_
      replace hf8 := Option.some.inj hf8
      subst hf8
      exact sl_end ⟨rfl, ⟨rfl, ⟨rfl, ⟨rfl, ⟨rfl, ⟨rfl, trivial⟩⟩⟩⟩⟩⟩
    obtain ⟨p22, hp22, h_⟩ := bsplit h; replace h := h_; clear h_
    replace h := Option.some.inj h
    subst h
    exact xl_exit (s_ret (Γ1 := [some (.im (eHouse house)), some (.im (D.tup ((hands).map D.int))), some (.im (D.tup (((house.1)).map (eO eDoor)))), some (.im (D.tup (((house.2)).map eWay))), some (.im (D.int (((house.1)).length : Int))), some (.li ((p21).map eWay)), none, none]) (m := (.im (eHouse (((house.1) ++ ([none] : (List (Option tDoor)))), p21)))) (ee_tup (ds := [(D.tup ((((house.1) ++ ([none] : (List (Option tDoor))))).map (eO eDoor))), (D.tup ((p21).map eWay))]) (ea_cons (ee_catTE (enc := (eO eDoor)) (xs := (house.1)) (ys := ([none] : (List (Option tDoor)))) (ee_var 2 (pv 2)) (ee_tup (ds := List.map (eO eDoor) ([none] : (List (Option tDoor)))) (ea_cons ee_non ea_nil) (show 1 ≤ 1000 by decide)) (gd_d hp22)) (ea_cons (ee_tupOf (ds := List.map eWay p21) g_tuple (ee_al 5 (pv 5)) (.al rfl)) ea_nil)) (show 2 ≤ 1000 by decide)) trivial) rfl
/-! ### law_pot -/
abbrev N_l_pot : List Str := ["script", "cells", "mixed", "cell"]
theorem sc_l_pot : FnScope N_l_pot ["script"] (defScope s_l_pot) := ⟨rfl, rfl, rfl, by decide +kernel, rfl, by decide +kernel, by decide +kernel⟩
def l_pot_L1  (s : Int) (x : Int) : Option Int := some ((((s * 69069) + x) + 11) % 4294967291)
def l_pot_m (script : (List Int)) : Option Pot := (gd (decide ((((cutL script none (some 63)))).length ≤ sizeLine))).bind fun p24 => (lcM (fun (t23 : Unit) (c23 : Int) => some ((), some ((2 * (if c23 < 0 then -c23 else c23)) + (if (decide (c23 < 0)) = true then 1 else 0)))) () ((cutL script none (some 63)))).bind fun p25 => (forS l_pot_L1 (15910 + (37 * ((script).length : Int))) (p25.2)).bind fun p27 => (gd (decide (((p25.2)).length ≤ sizeLine))).bind fun p29 => (lcM (fun (t28 : Unit) (c28 : Int) => some ((), if (decide ((10 ^ 12) < c28)) = true then some c28 else none)) () (p25.2)).bind fun p30 => some (Pot.mk p30.2 p27 0)
abbrev l_potR : List M → M → List M → Prop := fun ms r ms' => ∃ (script : (List Int)) (out : Pot), l_pot_m script = some out ∧ ms = [(.im (D.lst ((script).map D.int)))] ∧ r = (Pot.m2 out) ∧ ms' = []
theorem l_pot_ok {P : Program} {w : World} {K : PySem.W.Frag} {mg : Str → Option Value} {base : Heap} {f : Addr} {fd : FuncData} (F : FnP K "_law_pot" s_l_pot f fd) (g_abs : mg "abs" = none) (g_int : mg "int" = none) (g_len : mg "len" = none) : FnG P w K mg base 1 f fd ["script"] (spR K 1 [] l_potR) := by
  refine fn_body (k := 0) F sc_l_pot rfl (by decide) (by decide) (by decide) (by rintro ms r ms' ⟨script, out, _, rfl, _, rfl⟩; exact ⟨rfl, rfl⟩) ?_
  rintro cdv A outer s H E H0 io pin mio hpin hr hG ms r ms' ⟨script, out, h, rfl, rfl, rfl⟩
  refine ⟨[none, none, none, none], ?_, fun k i m h1 h2 => by simp at h1⟩
  unfold l_pot_m at h
  refine sl_in ?_
  obtain ⟨p24, hp24, h_⟩ := bsplit h; replace h := h_; clear h_
  obtain ⟨p25, hp25, h_⟩ := bsplit h; replace h := h_; clear h_
  refine sl_cons (Γ1 := [some (.im (D.lst ((script).map D.int))), some (.im (D.lst ((p25.2).map D.int))), some (.im (D.int (15910 + (37 * ((script).length : Int))))), none]) (s_par2 (Γ1 := [some (.im (D.lst ((script).map D.int))), none, none, none]) (m1 := (.im (D.lst ((p25.2).map D.int)))) (m2 := (.im (D.int (15910 + (37 * ((script).length : Int)))))) 1 2 rfl sc_l_pot.nd rfl rfl (by decide) rfl rfl (np1 hpin (by decide)) (np1 hpin (by decide)) trivial trivial (ea_cons (ee_lock (ee_lc (s1 := p25.1) (ys := p25.2) (f := (fun (t23 : Unit) (c23 : Int) => some ((), some ((2 * (if c23 < 0 then -c23 else c23)) + (if (decide (c23 < 0)) = true then 1 else 0))))) (enc := D.int) (eb := D.int) (xs := ((cutL script none (some 63)))) (s0 := ()) (hx := (fun v => .hid (.li (((cutL script none (some 63))).map D.int)) v)) (cond := (fun _ => True)) (Γs := fun (t23 : Unit) => [some (.im (D.lst ((script).map D.int))), none, none, none]) (Γt := fun (t23 : Unit) (c23 : Int) => [some (.im (D.lst ((script).map D.int))), none, none, some (.im (D.int c23))]) (Γu := fun (t23 : Unit) (c23 : Int) => [some (.im (D.lst ((script).map D.int))), none, none, some (.im (D.int c23))]) (tb := (fun _ _ => true)) rfl sc_l_pot.nd (blkOk_by (own := [("cell", 3)]) (N := N_l_pot) (sc := defScope s_l_pot) (by decide +kernel))
   { fx := Fix.hid, it := it_wk (Γ1 := [some (.im (D.lst ((script).map D.int))), none, none, none]) (it_lstH (ee_slLE (enc := D.int) (ee_var 0 (pv 0)) ep_none (ep_some ee_int) .fz)) ⟨rfl, trivial⟩, cd := fun _ => trivial, gt := fun s H Ca cl fp v q acc t23 c23 => (gt_name 3 sc_l_pot.nd rfl (by first | exact Or.inl rfl | exact Or.inr rfl) (np1 hpin (by decide)) ⟨trivial, ⟨trivial, trivial⟩⟩ (by decide)), tt := fun s H Ca cl fp v q acc t23 c23 _ => tests0,
        el := fun s H Ca cl fp v q acc t23 c23 st' y hk hf => by
            obtain ⟨hf1, hf2⟩ := Prod.mk.inj (Option.some.inj hf); subst hf1; replace hf2 := Option.some.inj hf2; subst hf2; exact ee_wk (Γ1 := [some (.im (D.lst ((script).map D.int))), none, none, some (.im (D.int c23))]) (ee_add (ee_mul (.inl ⟨by decide, by decide⟩) ee_int (ee_abs g_abs (ee_var 3 (pv 3)))) (ee_intB g_int (ee_lt (ee_var 3 (pv 3)) ee_int))) ⟨rfl, trivial⟩,
        ft := fun t23 c23 r hk hf => by
            cases hf; exact ⟨_, rfl⟩,
        ff := fun t23 c23 r hk hf => Bool.noConfusion hk, br := fun _ => (bare_cons rfl bare_nil), fr := (freeJ_cons trivial freeJ_nil), fh := fun v => (freeJ_cons ⟨trivial, trivial⟩ freeJ_nil), pn := pnJ hpin (by decide), ln := (gd_d hp24) }
   hp25)) (ea_cons (ee_add ee_int (ee_mul (.inl ⟨by decide, by decide⟩) ee_int (ee_lenLE (enc := D.int) g_len (ee_var 0 (pv 0)) .fz))) ea_nil))) ?_
  obtain ⟨p27, hp27, h_⟩ := bsplit h; replace h := h_; clear h_
  refine sl_cons (Γ1 := [some (.im (D.lst ((script).map D.int))), some (.im (D.lst ((p25.2).map D.int))), some (.im (D.int p27)), none]) (s_for (J := [3]) (enc := D.int) (xs := (p25.2)) (hx := (fun v => .hid (.im (.lst ((p25.2).map D.int))) v)) (cond := (fun _ => True)) (f := l_pot_L1) (s0 := (15910 + (37 * ((script).length : Int)))) (Γs := fun (s26 : Int) => [some (.im (D.lst ((script).map D.int))), some (.im (D.lst ((p25.2).map D.int))), some (.im (D.int s26)), none]) (Γt := fun (s26 : Int) (x26 : Int) => [some (.im (D.lst ((script).map D.int))), some (.im (D.lst ((p25.2).map D.int))), some (.im (D.int s26)), some (.im (D.int x26))]) rfl Fix.hid (it_wk (Γ1 := [some (.im (D.lst ((script).map D.int))), some (.im (D.lst ((p25.2).map D.int))), some (.im (D.int (15910 + (37 * ((script).length : Int))))), none]) (it_lstF (ee_var 1 (pv 1))) ⟨rfl, ⟨rfl, ⟨rfl, trivial⟩⟩⟩) (fun _ => trivial) ?_ ?_ hp27) ?_
  · intro v26 s26 x26
    exact (gt_name 3 sc_l_pot.nd rfl (by first | exact Or.inl rfl | exact Or.inr rfl) (np1 hpin (by decide)) ⟨trivial, trivial⟩ (by decide))
  · intro v26 s26 x26 s_26 hf26
    unfold l_pot_L1 at hf26
    refine sl_in ?_
    refine sl_cons (Γ1 := [some (.im (D.lst ((script).map D.int))), some (.im (D.lst ((p25.2).map D.int))), some (.im (D.int ((((s26 * 69069) + x26) + 11) % 4294967291))), some (.im (D.int x26))]) (s_set (Γ1 := [some (.im (D.lst ((script).map D.int))), some (.im (D.lst ((p25.2).map D.int))), some (.im (D.int s26)), some (.im (D.int x26))]) (m := (.im (D.int ((((s26 * 69069) + x26) + 11) % 4294967291)))) 2 sc_l_pot.nd rfl (by first | exact Or.inl rfl | exact Or.inr rfl) (np1 hpin (by decide)) (ee_mod (by decide) (ee_add (ee_add (ee_mul (.inr ⟨by decide, by decide⟩) (ee_var 2 (pv 2)) ee_int) (ee_var 3 (pv 3))) ee_int) ee_int) ⟨trivial, trivial⟩) ?_
    replace hf26 := Option.some.inj hf26
    subst hf26
    exact sl_end ⟨rfl, ⟨rfl, ⟨rfl, trivial⟩⟩⟩
  obtain ⟨p29, hp29, h_⟩ := bsplit h; replace h := h_; clear h_
  obtain ⟨p30, hp30, h_⟩ := bsplit h; replace h := h_; clear h_
  replace h := Option.some.inj h
  subst h
  refine sl_exit (s_ret (Γ1 := [some (.im (D.lst ((script).map D.int))), some (.im (D.lst ((p25.2).map D.int))), some (.im (D.int p27)), none]) (m := (Pot.m2 (Pot.mk p30.2 p27 0))) (ee_ll (ms := [(.li ((p30.2).map D.int)), (.im (D.int p27)), (.im (D.int 0))]) (ea_cons ?_ (ea_cons (ee_var 2 (pv 2)) (ea_cons ee_int ea_nil))) (by show (3 : Nat) ≤ 1000; decide)) trivial) rfl; exact (ee_lc/-n-/ (s1 := p30.1) (ys := p30.2) (f := (fun (t28 : Unit) (c28 : Int) => some ((), if (decide ((10 ^ 12) < c28)) = true then some c28 else none))) (enc := D.int) (eb := D.int) (xs := (p25.2)) (s0 := ()) (hx := (fun v => .hid (.im (.lst ((p25.2).map D.int))) v)) (cond := (fun _ => True)) (Γs := fun (t28 : Unit) => [some (.im (D.lst ((script).map D.int))), some (.im (D.lst ((p25.2).map D.int))), some (.im (D.int p27)), none]) (Γt := fun (t28 : Unit) (c28 : Int) => [some (.im (D.lst ((script).map D.int))), some (.im (D.lst ((p25.2).map D.int))), some (.im (D.int p27)), some (.im (D.int c28))]) (Γu := fun (t28 : Unit) (c28 : Int) => [some (.im (D.lst ((script).map D.int))), some (.im (D.lst ((p25.2).map D.int))), some (.im (D.int p27)), some (.im (D.int c28))]) (tb := (fun t28 c28 => (decide ((10 ^ 12) < c28)))) rfl sc_l_pot.nd (blkOk_by (own := [("cell", 3)]) (N := N_l_pot) (sc := defScope s_l_pot) (by decide +kernel))
   { fx := Fix.hid, it := it_wk (Γ1 := [some (.im (D.lst ((script).map D.int))), some (.im (D.lst ((p25.2).map D.int))), some (.im (D.int p27)), none]) (it_lstF (ee_var 1 (pv 1))) ⟨rfl, ⟨rfl, ⟨rfl, trivial⟩⟩⟩, cd := fun _ => trivial, gt := fun s H Ca cl fp v q acc t28 c28 => (gt_name 3 sc_l_pot.nd rfl (by first | exact Or.inl rfl | exact Or.inr rfl) (np1 hpin (by decide)) ⟨trivial, ⟨trivial, trivial⟩⟩ (by decide)), tt := fun s H Ca cl fp v q acc t28 c28 _ => tests1 (et_gt (ee_var 3 (pv 3)) (ee_pow ⟨by decide, by decide, by decide +kernel⟩ ee_int ee_int)),
        el := fun s H Ca cl fp v q acc t28 c28 st' y hk hf => by
            rw [if_t hk] at hf; obtain ⟨hf1, hf2⟩ := Prod.mk.inj (Option.some.inj hf); subst hf1; replace hf2 := Option.some.inj hf2; subst hf2; exact ee_wk (Γ1 := [some (.im (D.lst ((script).map D.int))), some (.im (D.lst ((p25.2).map D.int))), some (.im (D.int p27)), some (.im (D.int c28))]) (ee_var 3 (pv 3)) ⟨rfl, ⟨rfl, ⟨rfl, trivial⟩⟩⟩,
        ft := fun t28 c28 r hk hf => by cases hf; exact ⟨_, if_t hk⟩,
        ff := fun t28 c28 r hk hf => by cases hf; exact ⟨if_f hk, ⟨rfl, ⟨rfl, ⟨rfl, trivial⟩⟩⟩⟩, br := fun _ => (bare_cons rfl bare_nil), fr := (freeJ_cons trivial freeJ_nil), fh := fun v => (freeJ_cons ⟨trivial, trivial⟩ freeJ_nil), pn := pnJ hpin (by decide), ln := (gd_d hp29) }
   hp30)
abbrev N_of : List Str := ["pot", "many", "cell", "number"]
theorem sc_of : FnScope N_of ["pot", "many"] (defScope s_l_of) := ⟨rfl, rfl, rfl, by decide +kernel, rfl, by decide +kernel, by decide +kernel⟩
theorem of_ok {P : Program} {w : World} {K : PySem.W.Frag} {mg : Str → Option Value} {base : Heap} {f : Addr} {fd : FuncData} (F : FnP K "_law_of" s_l_of f fd) : FnG P w K mg base 1 f fd ["pot", "many"] (spR K 2 [0] drawQR) := by
  refine fn_body (k := 0) F sc_of rfl (by decide) (by decide) (by decide) (by rintro ms r ms' ⟨pot, many, out, _, rfl, _, rfl⟩; exact ⟨rfl, rfl⟩) ?_
  rintro cdv A outer s H E H0 io pin mio hpin hr hG ms r ms' ⟨pot, many, out, h, rfl, rfl, rfl⟩
  refine ⟨[some (Pot.m2 out.2), none, none, none], ?_, fun k i m h1 h2 => match k, h1, h2 with | 0, h1, h2 => by cases h1; cases h2; rfl⟩
  unfold drawQ_m at h
  rcases Bool.eq_false_or_eq_true (decide (many < 2)) with hg | hg
  · replace h := (if_t hg).symm.trans h
    cases h
    exact ss_exit (s_if (et_lt (ee_var 1 (pv 1)) ee_int) (fun _ => ss_one (s_ret (m := .im (.int 0)) ee_int ⟨rfl, trivial⟩)) (fun z => absurd (hg.symm.trans z) (by decide))) rfl
  replace h := (if_f hg).symm.trans h
  refine ss_cons (Γ1 := [some (Pot.m2 pot), some (.im (.int many)), none, none]) (s_if (et_lt (ee_var 1 (pv 1)) ee_int) (fun z => absurd (hg.symm.trans z) (by decide)) (fun _ => ss_nil ⟨rfl, rfl, trivial⟩)) ?_
  rcases Bool.eq_false_or_eq_true (!pot.far.isEmpty) with hf | hf
  · replace h := (if_t hf).symm.trans h
    obtain ⟨cell, hc, h⟩ := bsplit h
    refine ss_exit (s_if (et_neNilZE (xs := pot.far) hr.units 0 sub_i (pv 0) rfl ee_int Pot.far_sub2 (oks_map _ fun _ _ => rfl)) (fun _ => ?_) (fun z => absurd (hf.symm.trans z) (by decide))) rfl
    refine ss_cons (Γ1 := [some (Pot.m2 ⟨pot.far.dropLast, pot.mix, pot.turn⟩), some (.im (.int many)), some (.im (.int cell)), none]) (s_set (m := .im (.int cell)) 2 sc_of.nd rfl (Or.inl rfl) (np1 hpin (by decide)) (ee_popZE (xs := pot.far) (x := cell) (enc := D.int) 0 sub_i (pv 0) rfl ee_int Pot.far_sub2 hc Pot.far_chg2) trivial) ?_
    rcases Bool.eq_false_or_eq_true (decide (many ≤ cell)) with hm | hm
    · replace h := (if_t hm).symm.trans h
      obtain ⟨_, h0, h⟩ := bsplit h
      obtain ⟨_, h1, h⟩ := bsplit h
      obtain ⟨_, h2, h⟩ := bsplit h
      cases h
      refine ss_cons (Γ1 := [some (Pot.m2 ⟨pot.far.dropLast ++ [cell / many], pot.mix, pot.turn⟩), some (.im (.int many)), some (.im (.int cell)), none]) (s_if (et_ge (ee_var 2 (pv 2)) (ee_var 1 (pv 1))) (fun _ => ss_one (s_expr (ee_appZE (xs := pot.far.dropLast) (x := cell / many) (enc := D.int) 0 sub_i (pv 0) rfl ee_int (Pot.far_sub2 (d := ⟨pot.far.dropLast, pot.mix, pot.turn⟩)) (eq_fdivW (gd_d h1) (eq_var 2 (pv 2)) (eq_var 1 (pv 1))) (gd_d h2) (Pot.far_chg2 (d := ⟨pot.far.dropLast, pot.mix, pot.turn⟩))))) (fun z => absurd (hm.symm.trans z) (by decide))) ?_
      exact ss_one (s_ret (m := .im (.int (cell % many))) (ee_mod (gd_d h0) (ee_var 2 (pv 2)) (ee_var 1 (pv 1))) ⟨rfl, trivial⟩)
    · replace h := (if_f hm).symm.trans h
      obtain ⟨_, h0, h⟩ := bsplit h
      cases h
      refine ss_cons (Γ1 := [some (Pot.m2 ⟨pot.far.dropLast, pot.mix, pot.turn⟩), some (.im (.int many)), some (.im (.int cell)), none]) (s_if (et_ge (ee_var 2 (pv 2)) (ee_var 1 (pv 1))) (fun z => absurd (hm.symm.trans z) (by decide)) (fun _ => ss_nil ⟨rfl, rfl, rfl, trivial⟩)) ?_
      exact ss_one (s_ret (m := .im (.int (cell % many))) (ee_mod (gd_d h0) (ee_var 2 (pv 2)) (ee_var 1 (pv 1))) ⟨rfl, trivial⟩)
  replace h := (if_f hf).symm.trans h
  obtain ⟨_, h0, h⟩ := bsplit h
  have pos := gd_d h0
  cases h
  refine ss_cons (Γ1 := [some (Pot.m2 pot), some (.im (.int many)), none, none]) (s_if (et_neNilZE (xs := pot.far) hr.units 0 sub_i (pv 0) rfl ee_int Pot.far_sub2 (oks_map _ fun _ _ => rfl)) (fun z => absurd (hf.symm.trans z) (by decide)) (fun _ => ss_nil ⟨rfl, rfl, trivial⟩)) ?_
  refine ss_cons (Γ1 := [some (Pot.m2 ⟨pot.far, pot.mix, pot.turn + 1⟩), some (.im (.int many)), none, none]) (s_asgU (Γ1 := [some (Pot.m2 pot), some (.im (.int many)), none, none]) (ee_add (ee_at 0 sub_i (pv 0) rfl ee_int Pot.turn_sub2) ee_int) (gu_itemM (n := 2) (i := 2) (ms := [.li (pot.far.map D.int), .im (.int pot.mix), .im (.int pot.turn)]) (d := .int (pot.turn + 1)) (d0 := .int pot.turn) 0 (pv 0) rfl eq_int rfl rfl)) ?_
  refine ss_cons (Γ1 := [some (Pot.m2 ⟨pot.far, pot.mix, pot.turn + 1⟩), some (.im (.int many)), none, some (.im (.int ((pot.mix + (pot.turn + 1) * 2654435761) % 4294967279)))]) (s_set (m := .im (.int ((pot.mix + (pot.turn + 1) * 2654435761) % 4294967279))) 3 sc_of.nd rfl (Or.inl rfl) (np1 hpin (by decide)) (ee_mod (by decide) (ee_add (ee_at 0 sub_i (pv 0) rfl ee_int (Pot.mix_sub2 (d := ⟨pot.far, pot.mix, pot.turn + 1⟩))) (ee_mul (.inr ⟨by decide, by decide⟩) (ee_at 0 sub_i (pv 0) rfl ee_int (Pot.turn_sub2 (d := ⟨pot.far, pot.mix, pot.turn + 1⟩))) ee_int)) ee_int) trivial) ?_
  refine ss_cons (s_set 3 sc_of.nd rfl (Or.inl rfl) (np1 hpin (by decide)) (ee_mod (by decide) (ee_add (ee_add (ee_mul (modB (b := 4294967279) (by decide) (by decide)) (ee_var 3 (pv 3)) (ee_var 3 (pv 3))) (ee_mul (.inr ⟨by decide, by decide⟩) (ee_at 0 sub_i (pv 0) rfl ee_int (Pot.turn_sub2 (d := ⟨pot.far, pot.mix, pot.turn + 1⟩))) ee_int)) ee_int) ee_int) trivial) ?_
  refine ss_cons (s_set 3 sc_of.nd rfl (Or.inl rfl) (np1 hpin (by decide)) (ee_mod (by decide) (ee_add (ee_mul (modB (b := 4294967231) (by decide) (by decide)) (ee_var 3 (pv 3)) (ee_var 3 (pv 3))) (ee_at 0 sub_i (pv 0) rfl ee_int (Pot.mix_sub2 (d := ⟨pot.far, pot.mix, pot.turn + 1⟩)))) ee_int) trivial) ?_
  exact ss_one (s_ret (ee_mod pos (ee_fdivW ⟨by decide, by decide +kernel⟩ (ee_var 3 (pv 3)) ee_int) (ee_var 1 (pv 1))) ⟨rfl, trivial⟩)

theorem sc_one : FnScope ["pot", "items"] ["pot", "items"] (defScope s_l_one) := ⟨rfl, rfl, rfl, by decide +kernel, rfl, by decide +kernel, by decide +kernel⟩
theorem one_ok {P : Program} {w : World} {K : PySem.W.Frag} {mg : Str → Option Value} {base : Heap} {f : Addr} {fd : FuncData} (F : FnP K "_law_one" s_l_one f fd) {f_l_of : Addr} {fd_l_of : FuncData} (G_l_of : FnG P w K mg base 1 f_l_of fd_l_of ["pot", "many"] (spR K 2 [0] drawQR)) (F_l_of : FnP K "_law_of" s_l_of f_l_of fd_l_of) (g_l_of : mg "_law_of" = some (.ref f_l_of)) (g_len : mg "len" = none) : FnG P w K mg base 2 f fd ["pot", "items"] (spR K 2 [0] pickQR) := by
  refine fn_body (k := 1) F sc_one rfl (by decide) (by decide) (by decide) (by rintro ms r ms' ⟨pot, items, out, _, e | e, _, rfl⟩ <;> (subst e; exact ⟨rfl, rfl⟩)) ?_
  rintro cdv A outer s H E H0 io pin mio hpin hr hG ms r ms' ⟨pot, items, out, h, hms, rfl, rfl⟩
  have kp := F_l_of.kp
  have bd : Binds K fd_l_of ["pot", "many"] [] := F_l_of.bindsN fun _ _ _ _ _ _ us hl => match us, hl with | [_, _], _ => rfl
  refine ⟨[some (Pot.m2 out.2), none], ?_, fun k i m h1 h2 => match k, h1, h2 with | 0, h1, h2 => by cases h1; cases h2; rfl⟩
  unfold pickQ_m at h
  obtain ⟨p1, h1, h⟩ := bsplit h
  obtain ⟨p2, h2, h⟩ := bsplit h
  cases h
  rcases hms with rfl | rfl
  · exact ss_one (s_ret (m := .im p2) (ee_ixL (ee_var 1 (pv 1)) (ee_call (k := 1) G_l_of hr hG g_l_of kp bd (ea_cons (ee_tk 0 (pv 0)) (ea_cons (ee_lenL g_len (ee_var 1 (pv 1)) .fz) ea_nil)) ⟨pot, items.length, p1, h1, rfl, rfl, rfl⟩) .fz h2) ⟨rfl, trivial⟩)
  · exact ss_one (s_ret (m := .im p2) (ee_ixT (ee_var 1 (pv 1)) (ee_call (k := 1) G_l_of hr hG g_l_of kp bd (ea_cons (ee_tk 0 (pv 0)) (ea_cons (ee_lenT g_len (ee_var 1 (pv 1))) ea_nil)) ⟨pot, items.length, p1, h1, rfl, rfl, rfl⟩) h2) ⟨rfl, trivial⟩)

/-! ### law_mixed -/
abbrev N_l_mixed : List Str := ["pot", "items", "left", "found"]
theorem sc_l_mixed : FnScope N_l_mixed ["pot", "items"] (defScope s_l_mixed) := ⟨rfl, rfl, rfl, by decide +kernel, rfl, by decide +kernel, by decide +kernel⟩
def l_mixed_L1c  (s : (Pot × (List Int) × (List Int))) : Bool := (!((s.2.1)).isEmpty)
def l_mixed_L1  (s : (Pot × (List Int) × (List Int))) : Option (Pot × (List Int) × (List Int)) := (drawQ_m (s.1) (((s.2.1)).length : Int)).bind fun p32 => (popI (s.2.1) (p32.1)).bind fun p33 => (gd (decide (((s.2.1)).length ≤ 1000000))).bind fun p34 => (gd (decide (((s.2.2)).length < sizeLine))).bind fun p35 => some ((p32.2), p33.2, ((s.2.2) ++ [p33.1]))
def l_mixed_m (pot : Pot) (items : (List Int)) : Option ((List Int) × Pot) := (whS l_mixed_L1c l_mixed_L1 100000 (pot, items, ([] : (List Int)))).bind fun p40 => some ((p40.2.2), (p40.1))
abbrev l_mixedR : List M → M → List M → Prop := fun ms r ms' => ∃ (pot : Pot) (items : (List Int)) (out : ((List Int) × Pot)), l_mixed_m pot items = some out ∧ ms = [(Pot.m2 pot), (.im (D.lst ((items).map D.int)))] ∧ r = (.li (((out.1)).map D.int)) ∧ ms' = [(Pot.m2 (out.2))]
theorem l_mixed_ok {P : Program} {w : World} {K : PySem.W.Frag} {mg : Str → Option Value} {base : Heap} {f : Addr} {fd : FuncData} (F : FnP K "_law_mixed" s_l_mixed f fd) {f_l_of : Addr} {fd_l_of : FuncData} (G_l_of : FnG P w K mg base 1 f_l_of fd_l_of ["pot", "many"] (spR K 2 [0] drawQR)) (F_l_of : FnP K "_law_of" s_l_of f_l_of fd_l_of) (g_l_of : mg "_law_of" = some (.ref f_l_of)) (g_len : mg "len" = none) (g_list : mg "list" = none) : FnG P w K mg base 2 f fd ["pot", "items"] (spR K 2 [0] l_mixedR) := by
  refine fn_body (k := 1) F sc_l_mixed rfl (by decide) (by decide) (by decide) (by rintro ms r ms' ⟨pot, items, out, _, rfl, _, rfl⟩; exact ⟨rfl, rfl⟩) ?_
  rintro cdv A outer s H E H0 io pin mio hpin hr hG ms r ms' ⟨pot, items, out, h, rfl, rfl, rfl⟩
  refine ⟨[some (Pot.m2 (out.2)), none, none, none], ?_, fun k i m h1 h2 => match k, h1, h2 with | 0, h1, h2 => by cases h1; cases h2; rfl⟩
  unfold l_mixed_m at h
  refine sl_in ?_
  have kp_l_of := F_l_of.kp
  have b_l_of : Binds K fd_l_of ["pot", "many"] [] := F_l_of.bindsN fun _ _ _ _ _ _ us hl => match us, hl with | [_, _], _ => rfl
  refine sl_cons (Γ1 := [some (Pot.m2 pot), some (.im (D.lst ((items).map D.int))), some (.li ((items).map D.int)), some (.li ((([] : (List Int))).map D.int))]) (s_par2 (Γ1 := [some (Pot.m2 pot), some (.im (D.lst ((items).map D.int))), none, none]) (m1 := (.li ((items).map D.int))) (m2 := (.li ((([] : (List Int))).map D.int))) 2 3 rfl sc_l_mixed.nd rfl rfl (by decide) rfl rfl (np1 hpin (by decide)) (np1 hpin (by decide)) trivial trivial (ea_cons (ee_listOf (ds := List.map D.int items) g_list (ee_var 1 (pv 1)) (.l .fz)) (ea_cons (ee_lst (ds := []) ea_nil (show 0 ≤ 1000 by decide)) ea_nil))) ?_
  obtain ⟨p40, hp40, h_⟩ := bsplit h; replace h := h_; clear h_
  refine sl_cons (Γ1 := [some (Pot.m2 (p40.1)), some (.im (D.lst ((items).map D.int))), some (.li (((p40.2.1)).map D.int)), some (.li (((p40.2.2)).map D.int))]) (s_while (Γs := fun (s31 : (Pot × (List Int) × (List Int))) => [some (Pot.m2 (s31.1)), some (.im (D.lst ((items).map D.int))), some (.li (((s31.2.1)).map D.int)), some (.li (((s31.2.2)).map D.int))]) (s0 := (pot, items, ([] : (List Int)))) (cb := l_mixed_L1c) (f := l_mixed_L1) ?_ ?_ hp40) ?_
  · intro s31
    exact (et_neNilE (enc := D.int) hr.units (ee_al 2 (pv 2)) (.al rfl) (oks_map _ fun _ _ => rfl))
  · intro s31 s_31 hk31 hf31
    unfold l_mixed_L1 at hf31
    refine sl_in ?_
    obtain ⟨p36, hp36, hf31_⟩ := bsplit hf31; replace hf31 := hf31_; clear hf31_
    obtain ⟨p37, hp37, hf31_⟩ := bsplit hf31; replace hf31 := hf31_; clear hf31_
    obtain ⟨p38, hp38, hf31_⟩ := bsplit hf31; replace hf31 := hf31_; clear hf31_
    obtain ⟨p39, hp39, hf31_⟩ := bsplit hf31; replace hf31 := hf31_; clear hf31_
    refine sl_cons (Γ1 := [some (Pot.m2 (p36.2)), some (.im (D.lst ((items).map D.int))), some (.li ((p37.2).map D.int)), some (.li ((((s31.2.2) ++ [p37.1])).map D.int))]) (s_expr (t := .own (.im D.non)) (ee_appendE (Γ1 := [some (Pot.m2 (p36.2)), some (.im (D.lst ((items).map D.int))), some (.li ((p37.2).map D.int)), some (.li (((s31.2.2)).map D.int))]) (enc := D.int) (x := p37.1) 3 (pv 3) rfl (ee_popAtE (Γ1 := [some (Pot.m2 (p36.2)), some (.im (D.lst ((items).map D.int))), some (.li (((s31.2.1)).map D.int)), some (.li (((s31.2.2)).map D.int))]) (enc := D.int) 2 (pv 2) rfl (ee_callX (k := 1) (G_l_of.mono (by decide)) hr hG g_l_of kp_l_of b_l_of (ea_cons (ee_tk 0 (pv 0)) (ea_cons (ee_lenLE (enc := D.int) g_len (ee_al 2 (pv 2)) (.al rfl)) ea_nil)) ⟨(s31.1), (((s31.2.1)).length : Int), p36, hp36, rfl, rfl, rfl⟩) rfl hp37 (gd_d hp38)) rfl (gd_d hp39))) ?_
    replace hf31 := Option.some.inj hf31
    subst hf31
    exact sl_end ⟨rfl, ⟨rfl, ⟨rfl, ⟨rfl, trivial⟩⟩⟩⟩
  replace h := Option.some.inj h
  subst h
  exact sl_exit (s_ret (Γ1 := [some (Pot.m2 (p40.1)), some (.im (D.lst ((items).map D.int))), some (.li (((p40.2.1)).map D.int)), none]) (m := (.li (((p40.2.2)).map D.int))) (ee_mv 3 (pv 3)) ⟨rfl, trivial⟩) rfl
/-! ### law_way -/
abbrev N_l_way : List Str := ["pot", "rooms", "steps", "is_rising", "found", "kept", "free", "room"]
theorem sc_l_way : FnScope N_l_way ["pot", "rooms", "steps", "is_rising"] (defScope s_l_way) := ⟨rfl, rfl, rfl, by decide +kernel, rfl, by decide +kernel, by decide +kernel⟩
def l_way_L1c (rooms : (List Int)) (steps : Int) (is_rising : Bool) (s : (Pot × (List tStep) × (List Int))) : Bool := (decide (((((s.2.1)).length : Int) + (((s.2.2)).length : Int)) < steps))
def l_way_L1 (rooms : (List Int)) (steps : Int) (is_rising : Bool) (s : (Pot × (List tStep) × (List Int))) : Option (Pot × (List tStep) × (List Int)) := (gd (decide (((rooms)).length ≤ sizeLine))).bind fun p43 => (lcM (fun (t42 : Unit) (c42 : Int) => (((if (!(decide (c42 ∈ (s.2.2)))) = true then ((if is_rising = true then ((if (!((s.2.2)).isEmpty) = true then ((atI (s.2.2) (-1)).bind fun p47 => some (decide (c42 < p47))) else (some false)).bind fun p48 => some p48) else (some false)).bind fun p49 => some (!p49)) else (some false)).bind fun p50 => some p50)).bind fun tq => if tq = true then (some ((), some c42)) else some ((), none)) () (rooms)).bind fun p51 => (if ((s.2.2)).isEmpty = true then (some (true, (s.1))) else ((if (!(p51.2).isEmpty) = true then ((drawQ_m (s.1) 5).bind fun p54 => some ((decide ((p54.1) < 3)), (p54.2))) else (some (false, (s.1)))).bind fun p55 => some ((p55.1), (p55.2)))).bind fun p56 => if (p56.1) = true then ((pickQ_m (p56.2) p51.2).bind fun p58 => (gd (decide (((s.2.2)).length < sizeLine))).bind fun p59 => (atI ((s.2.2) ++ [p58.1]) (-1)).bind fun p60 => (gd (decide (((s.2.1)).length < sizeLine))).bind fun p61 => some (p58.2, ((s.2.1) ++ [(("in" : Str), p60)]), ((s.2.2) ++ [p58.1]))) else ((((s.2.2)).getLast?).bind fun p62 => (gd (decide (((s.2.1)).length < sizeLine))).bind fun p63 => some ((p56.2), ((s.2.1) ++ [(("out" : Str), p62)]), ((s.2.2)).dropLast))
def l_way_L2c  (s : ((List tStep) × (List Int))) : Bool := (!((s.2)).isEmpty)
def l_way_L2  (s : ((List tStep) × (List Int))) : Option ((List tStep) × (List Int)) := (((s.2)).getLast?).bind fun p88 => (gd (decide (((s.1)).length < sizeLine))).bind fun p89 => some (((s.1) ++ [(("out" : Str), p88)]), ((s.2)).dropLast)
def l_way_m (pot : Pot) (rooms : (List Int)) (steps : Int) (is_rising : Bool) : Option (tWay × Pot) := (whS (l_way_L1c rooms steps is_rising) (l_way_L1 rooms steps is_rising) 100000 (pot, ([] : (List tStep)), ([] : (List Int)))).bind fun p86 => (whS l_way_L2c l_way_L2 100000 ((p86.2.1), (p86.2.2))).bind fun p92 => some ((p92.1), (p86.1))
abbrev l_wayR : List M → M → List M → Prop := fun ms r ms' => ∃ (pot : Pot) (rooms : (List Int)) (steps : Int) (is_rising : Bool) (out : (tWay × Pot)), l_way_m pot rooms steps is_rising = some out ∧ ms = [(Pot.m2 pot), (.im (D.lst ((rooms).map D.int))), (.im (D.int steps)), (.im (D.bl is_rising))] ∧ r = (.im (D.tup (((out.1)).map eStep))) ∧ ms' = [(Pot.m2 (out.2))]
theorem l_way_ok {P : Program} {w : World} {K : PySem.W.Frag} {mg : Str → Option Value} {base : Heap} {f : Addr} {fd : FuncData} (F : FnP K "_law_way" s_l_way f fd) {f_l_of : Addr} {fd_l_of : FuncData} (G_l_of : FnG P w K mg base 1 f_l_of fd_l_of ["pot", "many"] (spR K 2 [0] drawQR)) (F_l_of : FnP K "_law_of" s_l_of f_l_of fd_l_of) (g_l_of : mg "_law_of" = some (.ref f_l_of)) {f_l_one : Addr} {fd_l_one : FuncData} (G_l_one : FnG P w K mg base 2 f_l_one fd_l_one ["pot", "items"] (spR K 2 [0] pickQR)) (F_l_one : FnP K "_law_one" s_l_one f_l_one fd_l_one) (g_l_one : mg "_law_one" = some (.ref f_l_one)) (g_len : mg "len" = none) (g_tuple : mg "tuple" = none) : FnG P w K mg base 3 f fd ["pot", "rooms", "steps", "is_rising"] (spR K 4 [0] l_wayR) := by
  refine fn_body (k := 2) F sc_l_way rfl (by decide) (by decide) (by decide) (by rintro ms r ms' ⟨pot, rooms, steps, is_rising, out, _, rfl, _, rfl⟩; exact ⟨rfl, rfl⟩) ?_
  rintro cdv A outer s H E H0 io pin mio hpin hr hG ms r ms' ⟨pot, rooms, steps, is_rising, out, h, rfl, rfl, rfl⟩
  refine ⟨[some (Pot.m2 (out.2)), none, none, none, none, none, none, none], ?_, fun k i m h1 h2 => match k, h1, h2 with | 0, h1, h2 => by cases h1; cases h2; rfl⟩
  unfold l_way_m at h
  refine sl_in ?_
  have kp_l_of := F_l_of.kp
  have b_l_of : Binds K fd_l_of ["pot", "many"] [] := F_l_of.bindsN fun _ _ _ _ _ _ us hl => match us, hl with | [_, _], _ => rfl
  have kp_l_one := F_l_one.kp
  have b_l_one : Binds K fd_l_one ["pot", "items"] [] := F_l_one.bindsN fun _ _ _ _ _ _ us hl => match us, hl with | [_, _], _ => rfl
  refine sl_cons (Γ1 := [some (Pot.m2 pot), some (.im (D.lst ((rooms).map D.int))), some (.im (D.int steps)), some (.im (D.bl is_rising)), some (.li ((([] : (List tStep))).map eStep)), some (.li ((([] : (List Int))).map D.int)), none, none]) (s_unp2 (Γ1 := [some (Pot.m2 pot), some (.im (D.lst ((rooms).map D.int))), some (.im (D.int steps)), some (.im (D.bl is_rising)), none, none, none, none]) (m1 := (.li ((([] : (List tStep))).map eStep))) (m2 := (.li ((([] : (List Int))).map D.int))) 4 5 rfl sc_l_way.nd rfl rfl (by decide) (by first | exact Or.inl rfl | exact Or.inr rfl) (by first | exact Or.inl rfl | exact Or.inr rfl) (np1 hpin (by decide)) (np1 hpin (by decide)) trivial trivial (ea_cons (ee_lst (ds := []) ea_nil (show 0 ≤ 1000 by decide)) (ea_cons (ee_lst (ds := []) ea_nil (show 0 ≤ 1000 by decide)) ea_nil))) ?_
  obtain ⟨p86, hp86, h_⟩ := bsplit h; replace h := h_; clear h_
  refine sl_cons (Γ1 := [some (Pot.m2 (p86.1)), some (.im (D.lst ((rooms).map D.int))), some (.im (D.int steps)), some (.im (D.bl is_rising)), some (.li (((p86.2.1)).map eStep)), some (.li (((p86.2.2)).map D.int)), none, none]) (s_while (Γs := fun (s41 : (Pot × (List tStep) × (List Int))) => [some (Pot.m2 (s41.1)), some (.im (D.lst ((rooms).map D.int))), some (.im (D.int steps)), some (.im (D.bl is_rising)), some (.li (((s41.2.1)).map eStep)), some (.li (((s41.2.2)).map D.int)), none, none]) (s0 := (pot, ([] : (List tStep)), ([] : (List Int)))) (cb := (l_way_L1c rooms steps is_rising)) (f := (l_way_L1 rooms steps is_rising)) ?_ ?_ hp86) ?_
  · intro s41
    exact (et_lt (ee_add (ee_lenLE (enc := eStep) g_len (ee_al 4 (pv 4)) (.al rfl)) (ee_lenLE (enc := D.int) g_len (ee_al 5 (pv 5)) (.al rfl))) (ee_var 2 (pv 2)))
  · intro s41 s_41 hk41 hf41
    unfold l_way_L1 at hf41
    refine sl_in ?_
    obtain ⟨p65, hp65, hf41_⟩ := bsplit hf41; replace hf41 := hf41_; clear hf41_
    obtain ⟨p73, hp73, hf41_⟩ := bsplit hf41; replace hf41 := hf41_; clear hf41_
    refine sl_cons (Γ1 := [some (Pot.m2 (s41.1)), some (.im (D.lst ((rooms).map D.int))), some (.im (D.int steps)), some (.im (D.bl is_rising)), some (.li (((s41.2.1)).map eStep)), some (.li (((s41.2.2)).map D.int)), some (.im (D.lst ((p73.2).map D.int))), none]) (s_lock 6 (Γ1 := [some (Pot.m2 (s41.1)), some (.im (D.lst ((rooms).map D.int))), some (.im (D.int steps)), some (.im (D.bl is_rising)), some (.li (((s41.2.1)).map eStep)), some (.li (((s41.2.2)).map D.int)), some (.li ((p73.2).map D.int)), none]) (s_setLc 6 (s1 := p73.1) (ys := p73.2) (f := (fun (t64 : Unit) (c64 : Int) => (((if (!(decide (c64 ∈ (s41.2.2)))) = true then ((if is_rising = true then ((if (!((s41.2.2)).isEmpty) = true then ((atI (s41.2.2) (-1)).bind fun p69 => some (decide (c64 < p69))) else (some false)).bind fun p70 => some p70) else (some false)).bind fun p71 => some (!p71)) else (some false)).bind fun p72 => some p72)).bind fun tq => if tq = true then (some ((), some c64)) else some ((), none))) (enc := D.int) (eb := D.int) (xs := (rooms)) (s0 := ()) (hx := (fun v => .hid (.im (.lst ((rooms).map D.int))) v)) (cond := (fun _ => True)) (Γs := fun (t64 : Unit) => [some (Pot.m2 (s41.1)), some (.im (D.lst ((rooms).map D.int))), some (.im (D.int steps)), some (.im (D.bl is_rising)), some (.li (((s41.2.1)).map eStep)), some (.li (((s41.2.2)).map D.int)), none, none]) (Γt := fun (t64 : Unit) (c64 : Int) => [some (Pot.m2 (s41.1)), some (.im (D.lst ((rooms).map D.int))), some (.im (D.int steps)), some (.im (D.bl is_rising)), some (.li (((s41.2.1)).map eStep)), some (.li (((s41.2.2)).map D.int)), none, some (.im (D.int c64))]) (Γu := fun (t64 : Unit) (c64 : Int) => [some (Pot.m2 (s41.1)), some (.im (D.lst ((rooms).map D.int))), some (.im (D.int steps)), some (.im (D.bl is_rising)), some (.li (((s41.2.1)).map eStep)), some (.li (((s41.2.2)).map D.int)), none, some (.im (D.int c64))]) (tb := (fun t64 c64 => tbo ((if (!(decide (c64 ∈ (s41.2.2)))) = true then ((if is_rising = true then ((if (!((s41.2.2)).isEmpty) = true then ((atI (s41.2.2) (-1)).bind fun p69 => some (decide (c64 < p69))) else (some false)).bind fun p70 => some p70) else (some false)).bind fun p71 => some (!p71)) else (some false)).bind fun p72 => some p72))) rfl sc_l_way.nd rfl rfl (np1 hpin (by decide)) trivial (blkOk_by (own := [("room", 7)]) (N := N_l_way) (sc := defScope s_l_way) (by decide +kernel))
   { fx := Fix.hid, it := it_wk (Γ1 := [some (Pot.m2 (s41.1)), some (.im (D.lst ((rooms).map D.int))), some (.im (D.int steps)), some (.im (D.bl is_rising)), some (.li (((s41.2.1)).map eStep)), some (.li (((s41.2.2)).map D.int)), none, none]) (it_lstF (ee_var 1 (pv 1))) ⟨rfl, ⟨rfl, ⟨rfl, ⟨rfl, ⟨rfl, ⟨rfl, trivial⟩⟩⟩⟩⟩⟩, cd := fun _ => trivial, gt := fun s H Ca cl fp v q acc t64 c64 => (gt_name 7 sc_l_way.nd rfl (by first | exact Or.inl rfl | exact Or.inr rfl) (np1 hpin (by decide)) ⟨trivial, ⟨trivial, trivial⟩⟩ (by decide)), tt := fun s H Ca cl fp v q acc t64 c64 ⟨rq, hrq⟩ => by
            obtain ⟨t, ht, hrq⟩ := bsplit hrq; have hz : tbo ((if (!(decide (c64 ∈ (s41.2.2)))) = true then ((if is_rising = true then ((if (!((s41.2.2)).isEmpty) = true then ((atI (s41.2.2) (-1)).bind fun p69 => some (decide (c64 < p69))) else (some false)).bind fun p70 => some p70) else (some false)).bind fun p71 => some (!p71)) else (some false)).bind fun p72 => some p72) = t := tbo_t ht; obtain ⟨p72, hp72, ht_⟩ := bsplit ht; replace ht := ht_; clear ht_; replace ht := Option.some.inj ht; subst ht; rw [hz]; exact (tests1 (ET.ofW (ew_and (Γ' := [some (Pot.m2 (s41.1)), some (.im (D.lst ((rooms).map D.int))), some (.im (D.int steps)), some (.im (D.bl is_rising)), some (.li (((s41.2.1)).map eStep)), some (.li (((s41.2.2)).map D.int)), none, some (.im (D.int c64))]) (k := p72) (et_ninI (ee_var 7 (pv 7)) (ee_al 5 (pv 5)) (.l (.al rfl))) (fun hk => by
            have e66 := (if_t hk).symm.trans hp72; obtain ⟨p71, hp71, e66_⟩ := bsplit e66; replace e66 := e66_; clear e66_; replace e66 := Option.some.inj e66; subst e66; exact (ew_and1 (et_not (ET.ofW (ew_and (Γ' := [some (Pot.m2 (s41.1)), some (.im (D.lst ((rooms).map D.int))), some (.im (D.int steps)), some (.im (D.bl is_rising)), some (.li (((s41.2.1)).map eStep)), some (.li (((s41.2.2)).map D.int)), none, some (.im (D.int c64))]) (k := p71) (et_val (ee_var 3 (pv 3))) (fun hk => by
            have e67 := (if_t hk).symm.trans hp71; obtain ⟨p70, hp70, e67_⟩ := bsplit e67; replace e67 := e67_; clear e67_; replace e67 := Option.some.inj e67; subst e67; exact (ew_and (Γ' := [some (Pot.m2 (s41.1)), some (.im (D.lst ((rooms).map D.int))), some (.im (D.int steps)), some (.im (D.bl is_rising)), some (.li (((s41.2.1)).map eStep)), some (.li (((s41.2.2)).map D.int)), none, some (.im (D.int c64))]) (k := p70) (et_neNilE (enc := D.int) hr.units (ee_al 5 (pv 5)) (.al rfl) (oks_map _ fun _ _ => rfl)) (fun hk => by
            have e68 := (if_t hk).symm.trans hp70; obtain ⟨p69, hp69, e68_⟩ := bsplit e68; replace e68 := e68_; clear e68_; replace e68 := Option.some.inj e68; subst e68; exact (ew_and1 (et_lt (ee_var 7 (pv 7)) (ee_ixLE (enc := D.int) (ee_al 5 (pv 5)) ee_negc (.al rfl) hp69)))) (fun hk => by have hq := (if_f hk).symm.trans hp70; cases hq; exact ⟨rfl, rfl⟩))) (fun hk => by have hq := (if_f hk).symm.trans hp71; cases hq; exact ⟨rfl, rfl⟩)))))) (fun hk => by have hq := (if_f hk).symm.trans hp72; cases hq; exact ⟨rfl, rfl⟩)))),
        el := fun s H Ca cl fp v q acc t64 c64 st' y hk hf => by
            obtain ⟨tq, ht, hf_⟩ := bsplit hf; replace hf := hf_; clear hf_; have hk : tq = true := (tbo_t ht).symm.trans hk; replace hf := (if_t hk).symm.trans hf; obtain ⟨hf1, hf2⟩ := Prod.mk.inj (Option.some.inj hf); subst hf1; replace hf2 := Option.some.inj hf2; subst hf2; exact ee_wk (Γ1 := [some (Pot.m2 (s41.1)), some (.im (D.lst ((rooms).map D.int))), some (.im (D.int steps)), some (.im (D.bl is_rising)), some (.li (((s41.2.1)).map eStep)), some (.li (((s41.2.2)).map D.int)), none, some (.im (D.int c64))]) (ee_var 7 (pv 7)) ⟨rfl, ⟨rfl, ⟨rfl, ⟨rfl, ⟨rfl, ⟨rfl, trivial⟩⟩⟩⟩⟩⟩,
        ft := fun t64 c64 r hk hf => by
            obtain ⟨tq, ht, hf_⟩ := bsplit hf; replace hf := hf_; clear hf_; have hk : tq = true := (tbo_t ht).symm.trans hk; replace hf := (if_t hk).symm.trans hf; cases hf; exact ⟨_, rfl⟩,
        ff := fun t64 c64 r hk hf => by obtain ⟨tq, ht, hf_⟩ := bsplit hf; replace hf := hf_; clear hf_; have hk : tq = false := (tbo_t ht).symm.trans hk; replace hf := (if_f hk).symm.trans hf; cases hf; exact ⟨rfl, ⟨rfl, ⟨rfl, ⟨rfl, ⟨rfl, ⟨rfl, ⟨rfl, trivial⟩⟩⟩⟩⟩⟩⟩, br := fun _ => (bare_cons rfl bare_nil), fr := (freeJ_cons trivial freeJ_nil), fh := fun v => (freeJ_cons ⟨trivial, trivial⟩ freeJ_nil), pn := pnJ hpin (by decide), ln := (gd_d hp65) }
   hp73 (sw_true rfl rfl rfl (by decide +kernel))) rfl) ?_
    obtain ⟨p78, hp78, hf41_⟩ := bsplit hf41; replace hf41 := hf41_; clear hf41_
    rcases Bool.eq_false_or_eq_true ((p78.1)) with hk79 | hk79
    · replace hf41 := (if_t hk79).symm.trans hf41
      refine sl_ift (ET.ofW (ew_or (Γ' := [some (Pot.m2 (p78.2)), some (.im (D.lst ((rooms).map D.int))), some (.im (D.int steps)), some (.im (D.bl is_rising)), some (.li (((s41.2.1)).map eStep)), some (.li (((s41.2.2)).map D.int)), some (.im (D.lst ((p73.2).map D.int))), none]) (k := (p78.1)) (et_eqNilE (enc := D.int) hr.units (ee_al 5 (pv 5)) (.al rfl) (oks_map _ fun _ _ => rfl)) (fun hk => by
            have e74 := (if_f hk).symm.trans hp78; obtain ⟨p77, hp77, e74_⟩ := bsplit e74; replace e74 := e74_; clear e74_; replace e74 := Option.some.inj e74; subst e74; exact (ew_or1 (ET.ofW (ew_and (Γ' := [some (Pot.m2 (p77.2)), some (.im (D.lst ((rooms).map D.int))), some (.im (D.int steps)), some (.im (D.bl is_rising)), some (.li (((s41.2.1)).map eStep)), some (.li (((s41.2.2)).map D.int)), some (.im (D.lst ((p73.2).map D.int))), none]) (k := (p77.1)) (et_neNilE (enc := D.int) hr.units (ee_var 6 (pv 6)) .fz (oks_map _ fun _ _ => rfl)) (fun hk => by
            have e75 := (if_t hk).symm.trans hp77; obtain ⟨p76, hp76, e75_⟩ := bsplit e75; replace e75 := e75_; clear e75_; replace e75 := Option.some.inj e75; subst e75; exact (ew_and1 (et_lt (ee_callX (k := 2) (G_l_of.mono (by decide)) hr hG g_l_of kp_l_of b_l_of (ea_cons (ee_tk 0 (pv 0)) (ea_cons ee_int ea_nil)) ⟨(s41.1), 5, p76, hp76, rfl, rfl, rfl⟩) ee_int))) (fun hk => by have hq := (if_f hk).symm.trans hp77; cases hq; exact ⟨rfl, rfl⟩))))) (fun hk => by have hq := (if_t hk).symm.trans hp78; cases hq; exact ⟨rfl, rfl⟩))) hk79 ?_
      obtain ⟨p80, hp80, hf41_⟩ := bsplit hf41; replace hf41 := hf41_; clear hf41_
      obtain ⟨p81, hp81, hf41_⟩ := bsplit hf41; replace hf41 := hf41_; clear hf41_
      refine sl_cons (Γ1 := [some (Pot.m2 p80.2), some (.im (D.lst ((rooms).map D.int))), some (.im (D.int steps)), some (.im (D.bl is_rising)), some (.li (((s41.2.1)).map eStep)), some (.li ((((s41.2.2) ++ [p80.1])).map D.int)), some (.im (D.lst ((p73.2).map D.int))), none]) (s_expr (t := .own (.im D.non)) (ee_appendE (Γ1 := [some (Pot.m2 p80.2), some (.im (D.lst ((rooms).map D.int))), some (.im (D.int steps)), some (.im (D.bl is_rising)), some (.li (((s41.2.1)).map eStep)), some (.li (((s41.2.2)).map D.int)), some (.im (D.lst ((p73.2).map D.int))), none]) (enc := D.int) (x := p80.1) 5 (pv 5) rfl (ee_callX (k := 2) (G_l_one.mono (by decide)) hr hG g_l_one kp_l_one b_l_one (ea_cons (ee_tk 0 (pv 0)) (ea_cons (ee_var 6 (pv 6)) ea_nil)) ⟨(p78.2), (p73.2).map D.int, ((D.int p80.1), p80.2), pickQ_map D.int hp80, .inl rfl, rfl, rfl⟩) rfl (gd_d hp81))) ?_
      obtain ⟨p82, hp82, hf41_⟩ := bsplit hf41; replace hf41 := hf41_; clear hf41_
      obtain ⟨p83, hp83, hf41_⟩ := bsplit hf41; replace hf41 := hf41_; clear hf41_
      refine sl_cons (Γ1 := [some (Pot.m2 p80.2), some (.im (D.lst ((rooms).map D.int))), some (.im (D.int steps)), some (.im (D.bl is_rising)), some (.li ((((s41.2.1) ++ [(("in" : Str), p82)])).map eStep)), some (.li ((((s41.2.2) ++ [p80.1])).map D.int)), some (.im (D.lst ((p73.2).map D.int))), none]) (s_expr (t := .own (.im D.non)) (ee_appendE (Γ1 := [some (Pot.m2 p80.2), some (.im (D.lst ((rooms).map D.int))), some (.im (D.int steps)), some (.im (D.bl is_rising)), some (.li (((s41.2.1)).map eStep)), some (.li ((((s41.2.2) ++ [p80.1])).map D.int)), some (.im (D.lst ((p73.2).map D.int))), none]) (enc := eStep) (x := (("in" : Str), p82)) 4 (pv 4) rfl (ee_tup (ds := [(D.str ("in" : Str)), (D.int p82)]) (ea_cons ee_str (ea_cons (ee_ixLE (enc := D.int) (ee_al 5 (pv 5)) ee_negc (.al rfl) hp82) ea_nil)) (show 2 ≤ 1000 by decide)) rfl (gd_d hp83))) ?_
      refine sl_pop ?_
      replace hf41 := Option.some.inj hf41
      subst hf41
      exact sl_end ⟨rfl, ⟨rfl, ⟨rfl, ⟨rfl, ⟨rfl, ⟨rfl, trivial⟩⟩⟩⟩⟩⟩
    · replace hf41 := (if_f hk79).symm.trans hf41
      refine sl_iff (ET.ofW (ew_or (Γ' := [some (Pot.m2 (p78.2)), some (.im (D.lst ((rooms).map D.int))), some (.im (D.int steps)), some (.im (D.bl is_rising)), some (.li (((s41.2.1)).map eStep)), some (.li (((s41.2.2)).map D.int)), some (.im (D.lst ((p73.2).map D.int))), none]) (k := (p78.1)) (et_eqNilE (enc := D.int) hr.units (ee_al 5 (pv 5)) (.al rfl) (oks_map _ fun _ _ => rfl)) (fun hk => by
            have e74 := (if_f hk).symm.trans hp78; obtain ⟨p77, hp77, e74_⟩ := bsplit e74; replace e74 := e74_; clear e74_; replace e74 := Option.some.inj e74; subst e74; exact (ew_or1 (ET.ofW (ew_and (Γ' := [some (Pot.m2 (p77.2)), some (.im (D.lst ((rooms).map D.int))), some (.im (D.int steps)), some (.im (D.bl is_rising)), some (.li (((s41.2.1)).map eStep)), some (.li (((s41.2.2)).map D.int)), some (.im (D.lst ((p73.2).map D.int))), none]) (k := (p77.1)) (et_neNilE (enc := D.int) hr.units (ee_var 6 (pv 6)) .fz (oks_map _ fun _ _ => rfl)) (fun hk => by
            have e75 := (if_t hk).symm.trans hp77; obtain ⟨p76, hp76, e75_⟩ := bsplit e75; replace e75 := e75_; clear e75_; replace e75 := Option.some.inj e75; subst e75; exact (ew_and1 (et_lt (ee_callX (k := 2) (G_l_of.mono (by decide)) hr hG g_l_of kp_l_of b_l_of (ea_cons (ee_tk 0 (pv 0)) (ea_cons ee_int ea_nil)) ⟨(s41.1), 5, p76, hp76, rfl, rfl, rfl⟩) ee_int))) (fun hk => by have hq := (if_f hk).symm.trans hp77; cases hq; exact ⟨rfl, rfl⟩))))) (fun hk => by have hq := (if_t hk).symm.trans hp78; cases hq; exact ⟨rfl, rfl⟩))) hk79 ?_
      obtain ⟨p84, hp84, hf41_⟩ := bsplit hf41; replace hf41 := hf41_; clear hf41_
      obtain ⟨p85, hp85, hf41_⟩ := bsplit hf41; replace hf41 := hf41_; clear hf41_
      refine sl_cons (Γ1 := [some (Pot.m2 (p78.2)), some (.im (D.lst ((rooms).map D.int))), some (.im (D.int steps)), some (.im (D.bl is_rising)), some (.li ((((s41.2.1) ++ [(("out" : Str), p84)])).map eStep)), some (.li ((((s41.2.2)).dropLast).map D.int)), some (.im (D.lst ((p73.2).map D.int))), none]) (s_expr (t := .own (.im D.non)) (ee_appendE (Γ1 := [some (Pot.m2 (p78.2)), some (.im (D.lst ((rooms).map D.int))), some (.im (D.int steps)), some (.im (D.bl is_rising)), some (.li (((s41.2.1)).map eStep)), some (.li ((((s41.2.2)).dropLast).map D.int)), some (.im (D.lst ((p73.2).map D.int))), none]) (enc := eStep) (x := (("out" : Str), p84)) 4 (pv 4) rfl (ee_tup (ds := [(D.str ("out" : Str)), (D.int p84)]) (ea_cons ee_str (ea_cons (ee_popE (enc := D.int) 5 (pv 5) rfl hp84) ea_nil)) (show 2 ≤ 1000 by decide)) rfl (gd_d hp85))) ?_
      refine sl_pop ?_
      replace hf41 := Option.some.inj hf41
      subst hf41
      exact sl_end ⟨rfl, ⟨rfl, ⟨rfl, ⟨rfl, ⟨rfl, ⟨rfl, trivial⟩⟩⟩⟩⟩⟩
  obtain ⟨p92, hp92, h_⟩ := bsplit h; replace h := h_; clear h_
  refine sl_cons (Γ1 := [some (Pot.m2 (p86.1)), some (.im (D.lst ((rooms).map D.int))), some (.im (D.int steps)), some (.im (D.bl is_rising)), some (.li (((p92.1)).map eStep)), some (.li (((p92.2)).map D.int)), none, none]) (s_while (Γs := fun (s87 : ((List tStep) × (List Int))) => [some (Pot.m2 (p86.1)), some (.im (D.lst ((rooms).map D.int))), some (.im (D.int steps)), some (.im (D.bl is_rising)), some (.li (((s87.1)).map eStep)), some (.li (((s87.2)).map D.int)), none, none]) (s0 := ((p86.2.1), (p86.2.2))) (cb := l_way_L2c) (f := l_way_L2) ?_ ?_ hp92) ?_
  · intro s87
    exact (et_neNilE (enc := D.int) hr.units (ee_al 5 (pv 5)) (.al rfl) (oks_map _ fun _ _ => rfl))
  · intro s87 s_87 hk87 hf87
    unfold l_way_L2 at hf87
    refine sl_in ?_
    obtain ⟨p90, hp90, hf87_⟩ := bsplit hf87; replace hf87 := hf87_; clear hf87_
    obtain ⟨p91, hp91, hf87_⟩ := bsplit hf87; replace hf87 := hf87_; clear hf87_
    refine sl_cons (Γ1 := [some (Pot.m2 (p86.1)), some (.im (D.lst ((rooms).map D.int))), some (.im (D.int steps)), some (.im (D.bl is_rising)), some (.li ((((s87.1) ++ [(("out" : Str), p90)])).map eStep)), some (.li ((((s87.2)).dropLast).map D.int)), none, none]) (s_expr (t := .own (.im D.non)) (ee_appendE (Γ1 := [some (Pot.m2 (p86.1)), some (.im (D.lst ((rooms).map D.int))), some (.im (D.int steps)), some (.im (D.bl is_rising)), some (.li (((s87.1)).map eStep)), some (.li ((((s87.2)).dropLast).map D.int)), none, none]) (enc := eStep) (x := (("out" : Str), p90)) 4 (pv 4) rfl (ee_tup (ds := [(D.str ("out" : Str)), (D.int p90)]) (ea_cons ee_str (ea_cons (ee_popE (enc := D.int) 5 (pv 5) rfl hp90) ea_nil)) (show 2 ≤ 1000 by decide)) rfl (gd_d hp91))) ?_
    replace hf87 := Option.some.inj hf87
    subst hf87
    exact sl_end ⟨rfl, ⟨rfl, ⟨rfl, ⟨rfl, ⟨rfl, ⟨rfl, trivial⟩⟩⟩⟩⟩⟩
  replace h := Option.some.inj h
  subst h
  exact sl_exit (s_ret (Γ1 := [some (Pot.m2 (p86.1)), some (.im (D.lst ((rooms).map D.int))), some (.im (D.int steps)), some (.im (D.bl is_rising)), some (.li (((p92.1)).map eStep)), some (.li (((p92.2)).map D.int)), none, none]) (m := (.im (D.tup (((p92.1)).map eStep)))) (ee_tupOf (ds := List.map eStep (p92.1)) g_tuple (ee_al 4 (pv 4)) (.al rfl)) ⟨rfl, trivial⟩) rfl
/-! ### law_door -/
abbrev N_l_door : List Str := ["pot", "many", "is_tame", "rank", "table", "orders", "some", "i", "j", "words", "row"]
theorem sc_l_door : FnScope N_l_door ["pot", "many", "is_tame"] (defScope s_l_door) := ⟨rfl, rfl, rfl, by decide +kernel, rfl, by decide +kernel, by decide +kernel⟩
def l_door_L2 (is_tame : Bool) (rank : (List Int)) (some_p : (List tPair)) (i : Int) (s : (Pot × (List (List Str)))) (x : Int) : Option (Pot × (List (List Str))) := (atI rank i).bind fun p110 => (atI rank x).bind fun p111 => (if (decide (p110 < p111)) = true then ((atI some_p 1).bind fun p114 => some p114) else ((atI some_p 2).bind fun p115 => some p115)).bind fun p116 => (if is_tame = true then ((drawQ_m (s.1) 5).bind fun p118 => some ((decide ((p118.1) = 0)), (p118.2))) else (some (false, (s.1)))).bind fun p119 => (if (p119.1) = true then ((atI some_p 0).bind fun p122 => some p122) else (some p116)).bind fun p123 => (if (!is_tame) = true then ((pickQ_m (p119.2) some_p).bind fun p126 => some (p126.2, p126.1)) else (some ((p119.2), p123))).bind fun p127 => (setT (s.2) i x ((p127.2).1)).bind fun p128 => (setT p128 x i ((p127.2).2)).bind fun p129 => some ((p127.1), p129)
def l_door_L1 (is_tame : Bool) (rank : (List Int)) (some_p : (List tPair)) (s : (Pot × (List (List Str)))) (x : Int) : Option (Pot × (List (List Str))) := (gd (decide (-(2 ^ 62) ≤ x))).bind fun p107 => (gd (decide (x < 2 ^ 62))).bind fun p108 => (forS (l_door_L2 is_tame rank some_p x) ((s.1), (s.2)) (rng 0 x)).bind fun p150 => some ((p150.1), (p150.2))
def l_door_L3 (many : Int) (s : (Pot × (List (List Int)))) (x : Int) : Option (Pot × (List (List Int))) := (gd (decide (-(2 ^ 62) ≤ many))).bind fun p200 => (gd (decide (many < 2 ^ 62))).bind fun p201 => (gd (decide (((rng 0 many)).length ≤ sizeLine))).bind fun p202 => (lcM (fun (t199 : Unit) (c199 : Int) => some ((), if (!(decide (c199 = x))) = true then some c199 else none)) () (rng 0 many)).bind fun p203 => (l_mixed_m (s.1) p203.2).bind fun p204 => (gd (decide (((s.2)).length < sizeLine))).bind fun p205 => some ((p204.2), ((s.2) ++ [(p204.1)]))
def l_door_m (pot : Pot) (many : Int) (is_tame : Bool) : Option (tDoor × Pot) := (gd (decide (0 ≤ many))).bind fun p93 => (gd (decide (many ≤ 1000000))).bind fun p94 => (l_mixed_m pot (rng 0 many)).bind fun p95 => (gd (decide (-(2 ^ 62) ≤ many))).bind fun p96 => (gd (decide (many < 2 ^ 62))).bind fun p97 => (gd (decide (((rng 0 many)).length ≤ sizeLine))).bind fun p98 => (gd (decide (0 ≤ many))).bind fun p101 => (gd (decide (many ≤ 1000))).bind fun p102 => (some (((rng 0 many)).map fun _ => (List.replicate (many : Int).toNat ("-" : Str)))).bind fun p103 => (gd (decide (-(2 ^ 62) ≤ many))).bind fun p104 => (gd (decide (many < 2 ^ 62))).bind fun p105 => (forS (l_door_L1 is_tame (p95.1) ([(("even" : Str), ("even" : Str)), (("stand" : Str), ("bow" : Str)), (("bow" : Str), ("stand" : Str)), (("bow" : Str), ("bow" : Str)), (("stand" : Str), ("stand" : Str))] : (List tPair))) ((p95.2), p103) (rng 0 many)).bind fun p195 => (gd (decide (-(2 ^ 62) ≤ many))).bind fun p196 => (gd (decide (many < 2 ^ 62))).bind fun p197 => (forS (l_door_L3 many) ((p195.1), ([] : (List (List Int)))) (rng 0 many)).bind fun p213 => (gd (decide ((((p195.2))).length ≤ sizeLine))).bind fun p215 => (lcM (fun (t214 : Unit) (c214 : (List Str)) => some ((), some c214)) () ((p195.2))).bind fun p216 => some ((p216.2, (p213.2)), (p213.1))
abbrev l_doorR : List M → M → List M → Prop := fun ms r ms' => ∃ (pot : Pot) (many : Int) (is_tame : Bool) (out : (tDoor × Pot)), l_door_m pot many is_tame = some out ∧ ms = [(Pot.m2 pot), (.im (D.int many)), (.im (D.bl is_tame))] ∧ r = (.im (eDoor (out.1))) ∧ ms' = [(Pot.m2 (out.2))]
theorem l_door_ok {P : Program} {w : World} {K : PySem.W.Frag} {mg : Str → Option Value} {base : Heap} {f : Addr} {fd : FuncData} (F : FnP K "_law_door" s_l_door f fd) {f_l_of : Addr} {fd_l_of : FuncData} (G_l_of : FnG P w K mg base 1 f_l_of fd_l_of ["pot", "many"] (spR K 2 [0] drawQR)) (F_l_of : FnP K "_law_of" s_l_of f_l_of fd_l_of) (g_l_of : mg "_law_of" = some (.ref f_l_of)) {f_l_one : Addr} {fd_l_one : FuncData} (G_l_one : FnG P w K mg base 2 f_l_one fd_l_one ["pot", "items"] (spR K 2 [0] pickQR)) (F_l_one : FnP K "_law_one" s_l_one f_l_one fd_l_one) (g_l_one : mg "_law_one" = some (.ref f_l_one)) {f_l_mixed : Addr} {fd_l_mixed : FuncData} (G_l_mixed : FnG P w K mg base 2 f_l_mixed fd_l_mixed ["pot", "items"] (spR K 2 [0] l_mixedR)) (F_l_mixed : FnP K "_law_mixed" s_l_mixed f_l_mixed fd_l_mixed) (g_l_mixed : mg "_law_mixed" = some (.ref f_l_mixed)) (g_list : mg "list" = none) (g_range : mg "range" = none) (g_tuple : mg "tuple" = none) : FnG P w K mg base 3 f fd ["pot", "many", "is_tame"] (spR K 3 [0] l_doorR) := by
  refine fn_body (k := 2) F sc_l_door rfl (by decide) (by decide) (by decide) (by rintro ms r ms' ⟨pot, many, is_tame, out, _, rfl, _, rfl⟩; exact ⟨rfl, rfl⟩) ?_
  rintro cdv A outer s H E H0 io pin mio hpin hr hG ms r ms' ⟨pot, many, is_tame, out, h, rfl, rfl, rfl⟩
  refine ⟨[some (Pot.m2 (out.2)), none, none, none, none, none, none, none, none, none, none], ?_, fun k i m h1 h2 => match k, h1, h2 with | 0, h1, h2 => by cases h1; cases h2; rfl⟩
  unfold l_door_m at h
  refine sl_in ?_
  have kp_l_of := F_l_of.kp
  have b_l_of : Binds K fd_l_of ["pot", "many"] [] := F_l_of.bindsN fun _ _ _ _ _ _ us hl => match us, hl with | [_, _], _ => rfl
  have kp_l_one := F_l_one.kp
  have b_l_one : Binds K fd_l_one ["pot", "items"] [] := F_l_one.bindsN fun _ _ _ _ _ _ us hl => match us, hl with | [_, _], _ => rfl
  have kp_l_mixed := F_l_mixed.kp
  have b_l_mixed : Binds K fd_l_mixed ["pot", "items"] [] := F_l_mixed.bindsN fun _ _ _ _ _ _ us hl => match us, hl with | [_, _], _ => rfl
  obtain ⟨p93, hp93, h_⟩ := bsplit h; replace h := h_; clear h_
  obtain ⟨p94, hp94, h_⟩ := bsplit h; replace h := h_; clear h_
  obtain ⟨p95, hp95, h_⟩ := bsplit h; replace h := h_; clear h_
  obtain ⟨p96, hp96, h_⟩ := bsplit h; replace h := h_; clear h_
  obtain ⟨p97, hp97, h_⟩ := bsplit h; replace h := h_; clear h_
  obtain ⟨p98, hp98, h_⟩ := bsplit h; replace h := h_; clear h_
  obtain ⟨p101, hp101, h_⟩ := bsplit h; replace h := h_; clear h_
  obtain ⟨p102, hp102, h_⟩ := bsplit h; replace h := h_; clear h_
  obtain ⟨p103, hp103, h_⟩ := bsplit h; replace h := h_; clear h_
  refine sl_cons (Γ1 := [some (Pot.m2 (p95.2)), some (.im (D.int many)), some (.im (D.bl is_tame)), some (.im (D.lst (((p95.1)).map D.int))), some (tbl D.str p103), some (.li ((([] : (List (List Int)))).map (eTL D.int))), none, none, none, none, none]) (s_par3 (Γ1 := [some (Pot.m2 (p95.2)), some (.im (D.int many)), some (.im (D.bl is_tame)), none, none, none, none, none, none, none, none]) (m1 := (.im (D.lst (((p95.1)).map D.int)))) (m2 := (tbl D.str p103)) (m3 := (.li ((([] : (List (List Int)))).map (eTL D.int)))) 3 4 5 rfl sc_l_door.nd rfl rfl rfl (by decide) (by decide) (by decide) rfl rfl rfl (np1 hpin (by decide)) (np1 hpin (by decide)) (np1 hpin (by decide)) trivial trivial trivial (ea_cons (ee_lock (ee_callX (k := 2) (G_l_mixed.mono (by decide)) hr hG g_l_mixed kp_l_mixed b_l_mixed (ea_cons (ee_tk 0 (pv 0)) (ea_cons (ee_lock (ee_listRg rfl g_list g_range (ee_var 1 (pv 1)) (gd_d hp93) (gd_d hp94))) ea_nil)) ⟨pot, (rng 0 many), p95, hp95, rfl, rfl, rfl⟩)) (ea_cons (eT_tbl (f := D.str) (r := (List.replicate (many : Int).toNat ("-" : Str))) (xs := (rng 0 many)) (rows := p103) (Option.some.inj hp103) (ee_lcL (enc := D.int) (mr := (fun (_ : Int) => (.li (((List.replicate (many : Int).toNat ("-" : Str))).map D.str)))) (xs := (rng 0 many)) (hx := (fun v => .hid (.im .non) v)) (cond := (fun _ => True)) (Γ0 := [some (Pot.m2 (p95.2)), some (.im (D.int many)), some (.im (D.bl is_tame)), none, none, none, none, none, none, none, none]) (Γt := fun (x : Int) => [some (Pot.m2 (p95.2)), some (.im (D.int many)), some (.im (D.bl is_tame)), none, none, none, none, some (.im (D.int x)), none, none, none]) rfl sc_l_door.nd (blkOk_by (own := [("i", 7)]) (N := N_l_door) (sc := defScope s_l_door) (by decide +kernel))
   { fx := Fix.hid, it := it_wk (Γ1 := [some (Pot.m2 (p95.2)), some (.im (D.int many)), some (.im (D.bl is_tame)), none, none, none, none, none, none, none, none]) (it_rng1 g_range (ee_var 1 (pv 1)) (gd_d hp96) (gd_d hp97)) ⟨rfl, ⟨rfl, ⟨rfl, trivial⟩⟩⟩, cd := trivial, gt := fun s H Ca cl fp v q acc x => (gt_name 7 sc_l_door.nd rfl (by first | exact Or.inl rfl | exact Or.inr rfl) (np1 hpin (by decide)) ⟨trivial, ⟨trivial, ⟨trivial, trivial⟩⟩⟩ (by decide)),
        el := fun s H Ca cl fp v q acc x => ee_wk (Γ1 := [some (Pot.m2 (p95.2)), some (.im (D.int many)), some (.im (D.bl is_tame)), none, none, none, none, some (.im (D.int x)), none, none, none]) (ee_repLE (enc := D.str) (x := ("-" : Str)) (ee_lst (ds := [(D.str ("-" : Str))]) (ea_cons ee_str ea_nil) (show 1 ≤ 1000 by decide)) (ee_var 1 (pv 1)) (gd_d hp101) (gd_d hp102)) ⟨rfl, ⟨rfl, ⟨rfl, trivial⟩⟩⟩, br := (bare_cons rfl bare_nil), fr := (freeJ_cons ⟨trivial, trivial⟩ freeJ_nil), fh := fun v => (freeJ_cons ⟨trivial, trivial⟩ freeJ_nil), pn := pnJ hpin (by decide), ln := (gd_d hp98) })) (ea_cons (ee_lst (ds := []) ea_nil (show 0 ≤ 1000 by decide)) ea_nil))) (by kernel_rfl)) ?_
  refine sl_cons (Γ1 := [some (Pot.m2 (p95.2)), some (.im (D.int many)), some (.im (D.bl is_tame)), some (.im (D.lst (((p95.1)).map D.int))), some (tbl D.str p103), some (.li ((([] : (List (List Int)))).map (eTL D.int))), some (.im (D.lst ((([(("even" : Str), ("even" : Str)), (("stand" : Str), ("bow" : Str)), (("bow" : Str), ("stand" : Str)), (("bow" : Str), ("bow" : Str)), (("stand" : Str), ("stand" : Str))] : (List tPair))).map ePair))), none, none, none, none]) (s_set (Γ1 := [some (Pot.m2 (p95.2)), some (.im (D.int many)), some (.im (D.bl is_tame)), some (.im (D.lst (((p95.1)).map D.int))), some (tbl D.str p103), some (.li ((([] : (List (List Int)))).map (eTL D.int))), none, none, none, none, none]) (m := (.im (D.lst ((([(("even" : Str), ("even" : Str)), (("stand" : Str), ("bow" : Str)), (("bow" : Str), ("stand" : Str)), (("bow" : Str), ("bow" : Str)), (("stand" : Str), ("stand" : Str))] : (List tPair))).map ePair)))) 6 sc_l_door.nd rfl (by first | exact Or.inl rfl | exact Or.inr rfl) (np1 hpin (by decide)) (ee_lock (ee_lst (ds := List.map ePair ([(("even" : Str), ("even" : Str)), (("stand" : Str), ("bow" : Str)), (("bow" : Str), ("stand" : Str)), (("bow" : Str), ("bow" : Str)), (("stand" : Str), ("stand" : Str))] : (List tPair))) (ea_cons (ee_tup (ds := [(D.str ("even" : Str)), (D.str ("even" : Str))]) (ea_cons ee_str (ea_cons ee_str ea_nil)) (show 2 ≤ 1000 by decide)) (ea_cons (ee_tup (ds := [(D.str ("stand" : Str)), (D.str ("bow" : Str))]) (ea_cons ee_str (ea_cons ee_str ea_nil)) (show 2 ≤ 1000 by decide)) (ea_cons (ee_tup (ds := [(D.str ("bow" : Str)), (D.str ("stand" : Str))]) (ea_cons ee_str (ea_cons ee_str ea_nil)) (show 2 ≤ 1000 by decide)) (ea_cons (ee_tup (ds := [(D.str ("bow" : Str)), (D.str ("bow" : Str))]) (ea_cons ee_str (ea_cons ee_str ea_nil)) (show 2 ≤ 1000 by decide)) (ea_cons (ee_tup (ds := [(D.str ("stand" : Str)), (D.str ("stand" : Str))]) (ea_cons ee_str (ea_cons ee_str ea_nil)) (show 2 ≤ 1000 by decide)) ea_nil))))) (show 5 ≤ 1000 by decide))) trivial) ?_
  obtain ⟨p104, hp104, h_⟩ := bsplit h; replace h := h_; clear h_
  obtain ⟨p105, hp105, h_⟩ := bsplit h; replace h := h_; clear h_
  obtain ⟨p195, hp195, h_⟩ := bsplit h; replace h := h_; clear h_
  refine sl_cons (Γ1 := [some (Pot.m2 (p195.1)), some (.im (D.int many)), some (.im (D.bl is_tame)), some (.im (D.lst (((p95.1)).map D.int))), some (tbl D.str (p195.2)), some (.li ((([] : (List (List Int)))).map (eTL D.int))), some (.im (D.lst ((([(("even" : Str), ("even" : Str)), (("stand" : Str), ("bow" : Str)), (("bow" : Str), ("stand" : Str)), (("bow" : Str), ("bow" : Str)), (("stand" : Str), ("stand" : Str))] : (List tPair))).map ePair))), none, none, none, none]) (s_for (J := [7]) (enc := D.int) (xs := (rng 0 many)) (hx := (fun v => .hid (.im .non) v)) (cond := (fun _ => True)) (f := (l_door_L1 is_tame (p95.1) ([(("even" : Str), ("even" : Str)), (("stand" : Str), ("bow" : Str)), (("bow" : Str), ("stand" : Str)), (("bow" : Str), ("bow" : Str)), (("stand" : Str), ("stand" : Str))] : (List tPair)))) (s0 := ((p95.2), p103)) (Γs := fun (s106 : (Pot × (List (List Str)))) => [some (Pot.m2 (s106.1)), some (.im (D.int many)), some (.im (D.bl is_tame)), some (.im (D.lst (((p95.1)).map D.int))), some (tbl D.str (s106.2)), some (.li ((([] : (List (List Int)))).map (eTL D.int))), some (.im (D.lst ((([(("even" : Str), ("even" : Str)), (("stand" : Str), ("bow" : Str)), (("bow" : Str), ("stand" : Str)), (("bow" : Str), ("bow" : Str)), (("stand" : Str), ("stand" : Str))] : (List tPair))).map ePair))), none, none, none, none]) (Γt := fun (s106 : (Pot × (List (List Str)))) (x106 : Int) => [some (Pot.m2 (s106.1)), some (.im (D.int many)), some (.im (D.bl is_tame)), some (.im (D.lst (((p95.1)).map D.int))), some (tbl D.str (s106.2)), some (.li ((([] : (List (List Int)))).map (eTL D.int))), some (.im (D.lst ((([(("even" : Str), ("even" : Str)), (("stand" : Str), ("bow" : Str)), (("bow" : Str), ("stand" : Str)), (("bow" : Str), ("bow" : Str)), (("stand" : Str), ("stand" : Str))] : (List tPair))).map ePair))), some (.im (D.int x106)), none, none, none]) rfl Fix.hid (it_wk (Γ1 := [some (Pot.m2 (p95.2)), some (.im (D.int many)), some (.im (D.bl is_tame)), some (.im (D.lst (((p95.1)).map D.int))), some (tbl D.str p103), some (.li ((([] : (List (List Int)))).map (eTL D.int))), some (.im (D.lst ((([(("even" : Str), ("even" : Str)), (("stand" : Str), ("bow" : Str)), (("bow" : Str), ("stand" : Str)), (("bow" : Str), ("bow" : Str)), (("stand" : Str), ("stand" : Str))] : (List tPair))).map ePair))), none, none, none, none]) (it_rng1 g_range (ee_var 1 (pv 1)) (gd_d hp104) (gd_d hp105)) ⟨rfl, ⟨rfl, ⟨rfl, ⟨rfl, ⟨rfl, ⟨rfl, ⟨rfl, trivial⟩⟩⟩⟩⟩⟩⟩) (fun _ => trivial) ?_ ?_ hp195) ?_
  · intro v106 s106 x106
    exact (gt_name 7 sc_l_door.nd rfl (by first | exact Or.inl rfl | exact Or.inr rfl) (np1 hpin (by decide)) ⟨trivial, trivial⟩ (by decide))
  · intro v106 s106 x106 s_106 hf106
    unfold l_door_L1 at hf106
    refine sl_in ?_
    obtain ⟨p151, hp151, hf106_⟩ := bsplit hf106; replace hf106 := hf106_; clear hf106_
    obtain ⟨p152, hp152, hf106_⟩ := bsplit hf106; replace hf106 := hf106_; clear hf106_
    obtain ⟨p194, hp194, hf106_⟩ := bsplit hf106; replace hf106 := hf106_; clear hf106_
    refine sl_cons (Γ1 := [some (Pot.m2 (p194.1)), some (.im (D.int many)), some (.im (D.bl is_tame)), some (.im (D.lst (((p95.1)).map D.int))), some (tbl D.str (p194.2)), some (.li ((([] : (List (List Int)))).map (eTL D.int))), some (.im (D.lst ((([(("even" : Str), ("even" : Str)), (("stand" : Str), ("bow" : Str)), (("bow" : Str), ("stand" : Str)), (("bow" : Str), ("bow" : Str)), (("stand" : Str), ("stand" : Str))] : (List tPair))).map ePair))), some (.im (D.int x106)), none, none, none]) (s_for (J := [8]) (enc := D.int) (xs := (rng 0 x106)) (hx := (fun v => .hid (.im .non) v)) (cond := (fun _ => True)) (f := (l_door_L2 is_tame (p95.1) ([(("even" : Str), ("even" : Str)), (("stand" : Str), ("bow" : Str)), (("bow" : Str), ("stand" : Str)), (("bow" : Str), ("bow" : Str)), (("stand" : Str), ("stand" : Str))] : (List tPair)) x106)) (s0 := ((s106.1), (s106.2))) (Γs := fun (s153 : (Pot × (List (List Str)))) => [some (Pot.m2 (s153.1)), some (.im (D.int many)), some (.im (D.bl is_tame)), some (.im (D.lst (((p95.1)).map D.int))), some (tbl D.str (s153.2)), some (.li ((([] : (List (List Int)))).map (eTL D.int))), some (.im (D.lst ((([(("even" : Str), ("even" : Str)), (("stand" : Str), ("bow" : Str)), (("bow" : Str), ("stand" : Str)), (("bow" : Str), ("bow" : Str)), (("stand" : Str), ("stand" : Str))] : (List tPair))).map ePair))), some (.im (D.int x106)), none, none, none]) (Γt := fun (s153 : (Pot × (List (List Str)))) (x153 : Int) => [some (Pot.m2 (s153.1)), some (.im (D.int many)), some (.im (D.bl is_tame)), some (.im (D.lst (((p95.1)).map D.int))), some (tbl D.str (s153.2)), some (.li ((([] : (List (List Int)))).map (eTL D.int))), some (.im (D.lst ((([(("even" : Str), ("even" : Str)), (("stand" : Str), ("bow" : Str)), (("bow" : Str), ("stand" : Str)), (("bow" : Str), ("bow" : Str)), (("stand" : Str), ("stand" : Str))] : (List tPair))).map ePair))), some (.im (D.int x106)), some (.im (D.int x153)), none, none]) rfl Fix.hid (it_wk (Γ1 := [some (Pot.m2 (s106.1)), some (.im (D.int many)), some (.im (D.bl is_tame)), some (.im (D.lst (((p95.1)).map D.int))), some (tbl D.str (s106.2)), some (.li ((([] : (List (List Int)))).map (eTL D.int))), some (.im (D.lst ((([(("even" : Str), ("even" : Str)), (("stand" : Str), ("bow" : Str)), (("bow" : Str), ("stand" : Str)), (("bow" : Str), ("bow" : Str)), (("stand" : Str), ("stand" : Str))] : (List tPair))).map ePair))), some (.im (D.int x106)), none, none, none]) (it_rng1 g_range (ee_var 7 (pv 7)) (gd_d hp151) (gd_d hp152)) ⟨rfl, ⟨rfl, ⟨rfl, ⟨rfl, ⟨rfl, ⟨rfl, ⟨rfl, ⟨rfl, trivial⟩⟩⟩⟩⟩⟩⟩⟩) (fun _ => trivial) ?_ ?_ hp194) ?_
    · intro v153 s153 x153
      exact (gt_name 8 sc_l_door.nd rfl (by first | exact Or.inl rfl | exact Or.inr rfl) (np1 hpin (by decide)) ⟨trivial, ⟨trivial, trivial⟩⟩ (by decide))
    · intro v153 s153 x153 s_153 hf153
      unfold l_door_L2 at hf153
      refine sl_in ?_
      obtain ⟨p174, hp174, hf153_⟩ := bsplit hf153; replace hf153 := hf153_; clear hf153_
      obtain ⟨p175, hp175, hf153_⟩ := bsplit hf153; replace hf153 := hf153_; clear hf153_
      obtain ⟨p180, hp180, hf153_⟩ := bsplit hf153; replace hf153 := hf153_; clear hf153_
      refine sl_cons (Γ1 := [some (Pot.m2 (s153.1)), some (.im (D.int many)), some (.im (D.bl is_tame)), some (.im (D.lst (((p95.1)).map D.int))), some (tbl D.str (s153.2)), some (.li ((([] : (List (List Int)))).map (eTL D.int))), some (.im (D.lst ((([(("even" : Str), ("even" : Str)), (("stand" : Str), ("bow" : Str)), (("bow" : Str), ("stand" : Str)), (("bow" : Str), ("bow" : Str)), (("stand" : Str), ("stand" : Str))] : (List tPair))).map ePair))), some (.im (D.int x106)), some (.im (D.int x153)), some (.im (ePair p180)), none]) (s_set (Γ1 := [some (Pot.m2 (s153.1)), some (.im (D.int many)), some (.im (D.bl is_tame)), some (.im (D.lst (((p95.1)).map D.int))), some (tbl D.str (s153.2)), some (.li ((([] : (List (List Int)))).map (eTL D.int))), some (.im (D.lst ((([(("even" : Str), ("even" : Str)), (("stand" : Str), ("bow" : Str)), (("bow" : Str), ("stand" : Str)), (("bow" : Str), ("bow" : Str)), (("stand" : Str), ("stand" : Str))] : (List tPair))).map ePair))), some (.im (D.int x106)), some (.im (D.int x153)), none, none]) (m := (.im (ePair p180))) 9 sc_l_door.nd rfl (by first | exact Or.inl rfl | exact Or.inr rfl) (np1 hpin (by decide)) (ee_if (t := .own (.im (ePair p180))) (Γ' := [some (Pot.m2 (s153.1)), some (.im (D.int many)), some (.im (D.bl is_tame)), some (.im (D.lst (((p95.1)).map D.int))), some (tbl D.str (s153.2)), some (.li ((([] : (List (List Int)))).map (eTL D.int))), some (.im (D.lst ((([(("even" : Str), ("even" : Str)), (("stand" : Str), ("bow" : Str)), (("bow" : Str), ("stand" : Str)), (("bow" : Str), ("bow" : Str)), (("stand" : Str), ("stand" : Str))] : (List tPair))).map ePair))), some (.im (D.int x106)), some (.im (D.int x153)), none, none]) (et_lt (ee_ixLE (enc := D.int) (ee_var 3 (pv 3)) (ee_var 7 (pv 7)) .fz hp174) (ee_ixLE (enc := D.int) (ee_var 3 (pv 3)) (ee_var 8 (pv 8)) .fz hp175)) (fun hk => by
            have e176 := (if_t hk).symm.trans hp180; obtain ⟨p178, hp178, e176_⟩ := bsplit e176; replace e176 := e176_; clear e176_; replace e176 := Option.some.inj e176; subst e176; exact (ee_ixLE (enc := ePair) (ee_var 6 (pv 6)) ee_int .fz hp178)) (fun hk => by
            have e177 := (if_f hk).symm.trans hp180; obtain ⟨p179, hp179, e177_⟩ := bsplit e177; replace e177 := e177_; clear e177_; replace e177 := Option.some.inj e177; subst e177; exact (ee_ixLE (enc := ePair) (ee_var 6 (pv 6)) ee_int .fz hp179))) ⟨trivial, ⟨trivial, trivial⟩⟩) ?_
      obtain ⟨p183, hp183, hf153_⟩ := bsplit hf153; replace hf153 := hf153_; clear hf153_
      obtain ⟨p187, hp187, hf153_⟩ := bsplit hf153; replace hf153 := hf153_; clear hf153_
      refine sl_cons (Γ1 := [some (Pot.m2 (p183.2)), some (.im (D.int many)), some (.im (D.bl is_tame)), some (.im (D.lst (((p95.1)).map D.int))), some (tbl D.str (s153.2)), some (.li ((([] : (List (List Int)))).map (eTL D.int))), some (.im (D.lst ((([(("even" : Str), ("even" : Str)), (("stand" : Str), ("bow" : Str)), (("bow" : Str), ("stand" : Str)), (("bow" : Str), ("bow" : Str)), (("stand" : Str), ("stand" : Str))] : (List tPair))).map ePair))), some (.im (D.int x106)), some (.im (D.int x153)), some (.im (ePair p187)), none]) (s_if (ET.ofW (ew_and (Γ' := [some (Pot.m2 (p183.2)), some (.im (D.int many)), some (.im (D.bl is_tame)), some (.im (D.lst (((p95.1)).map D.int))), some (tbl D.str (s153.2)), some (.li ((([] : (List (List Int)))).map (eTL D.int))), some (.im (D.lst ((([(("even" : Str), ("even" : Str)), (("stand" : Str), ("bow" : Str)), (("bow" : Str), ("stand" : Str)), (("bow" : Str), ("bow" : Str)), (("stand" : Str), ("stand" : Str))] : (List tPair))).map ePair))), some (.im (D.int x106)), some (.im (D.int x153)), some (.im (ePair p180)), none]) (k := (p183.1)) (et_val (ee_var 2 (pv 2))) (fun hk => by
            have e181 := (if_t hk).symm.trans hp183; obtain ⟨p182, hp182, e181_⟩ := bsplit e181; replace e181 := e181_; clear e181_; replace e181 := Option.some.inj e181; subst e181; exact (ew_and1 (et_eqI (ee_callX (k := 2) (G_l_of.mono (by decide)) hr hG g_l_of kp_l_of b_l_of (ea_cons (ee_tk 0 (pv 0)) (ea_cons ee_int ea_nil)) ⟨(s153.1), 5, p182, hp182, rfl, rfl, rfl⟩) ee_int))) (fun hk => by have hq := (if_f hk).symm.trans hp183; cases hq; exact ⟨rfl, rfl⟩))) (fun hk => ?_) (fun hk => ?_)) ?_
      · refine sl_in ?_
        have e184 := (if_t hk).symm.trans hp187
        obtain ⟨p186, hp186, e184_⟩ := bsplit e184; replace e184 := e184_; clear e184_
        refine sl_cons (Γ1 := [some (Pot.m2 (p183.2)), some (.im (D.int many)), some (.im (D.bl is_tame)), some (.im (D.lst (((p95.1)).map D.int))), some (tbl D.str (s153.2)), some (.li ((([] : (List (List Int)))).map (eTL D.int))), some (.im (D.lst ((([(("even" : Str), ("even" : Str)), (("stand" : Str), ("bow" : Str)), (("bow" : Str), ("stand" : Str)), (("bow" : Str), ("bow" : Str)), (("stand" : Str), ("stand" : Str))] : (List tPair))).map ePair))), some (.im (D.int x106)), some (.im (D.int x153)), some (.im (ePair p186)), none]) (s_set (Γ1 := [some (Pot.m2 (p183.2)), some (.im (D.int many)), some (.im (D.bl is_tame)), some (.im (D.lst (((p95.1)).map D.int))), some (tbl D.str (s153.2)), some (.li ((([] : (List (List Int)))).map (eTL D.int))), some (.im (D.lst ((([(("even" : Str), ("even" : Str)), (("stand" : Str), ("bow" : Str)), (("bow" : Str), ("stand" : Str)), (("bow" : Str), ("bow" : Str)), (("stand" : Str), ("stand" : Str))] : (List tPair))).map ePair))), some (.im (D.int x106)), some (.im (D.int x153)), some (.im (ePair p180)), none]) (m := (.im (ePair p186))) 9 sc_l_door.nd rfl (by first | exact Or.inl rfl | exact Or.inr rfl) (np1 hpin (by decide)) (ee_ixLE (enc := ePair) (ee_var 6 (pv 6)) ee_int .fz hp186) ⟨trivial, ⟨trivial, trivial⟩⟩) ?_
        replace e184 := Option.some.inj e184
        subst e184
        exact sl_end ⟨rfl, ⟨rfl, ⟨rfl, ⟨rfl, ⟨rfl, ⟨rfl, ⟨rfl, ⟨rfl, ⟨rfl, ⟨rfl, trivial⟩⟩⟩⟩⟩⟩⟩⟩⟩⟩
      · refine sl_in ?_
        have e185 := (if_f hk).symm.trans hp187
        replace e185 := Option.some.inj e185
        subst e185
        exact sl_end ⟨rfl, ⟨rfl, ⟨rfl, ⟨rfl, ⟨rfl, ⟨rfl, ⟨rfl, ⟨rfl, ⟨rfl, ⟨rfl, trivial⟩⟩⟩⟩⟩⟩⟩⟩⟩⟩
      obtain ⟨p191, hp191, hf153_⟩ := bsplit hf153; replace hf153 := hf153_; clear hf153_
      refine sl_cons (Γ1 := [some (Pot.m2 (p191.1)), some (.im (D.int many)), some (.im (D.bl is_tame)), some (.im (D.lst (((p95.1)).map D.int))), some (tbl D.str (s153.2)), some (.li ((([] : (List (List Int)))).map (eTL D.int))), some (.im (D.lst ((([(("even" : Str), ("even" : Str)), (("stand" : Str), ("bow" : Str)), (("bow" : Str), ("stand" : Str)), (("bow" : Str), ("bow" : Str)), (("stand" : Str), ("stand" : Str))] : (List tPair))).map ePair))), some (.im (D.int x106)), some (.im (D.int x153)), some (.im (ePair (p191.2))), none]) (s_if (et_not (et_val (ee_var 2 (pv 2)))) (fun hk => ?_) (fun hk => ?_)) ?_
      · refine sl_in ?_
        have e188 := (if_t hk).symm.trans hp191
        obtain ⟨p190, hp190, e188_⟩ := bsplit e188; replace e188 := e188_; clear e188_
        refine sl_cons (Γ1 := [some (Pot.m2 p190.2), some (.im (D.int many)), some (.im (D.bl is_tame)), some (.im (D.lst (((p95.1)).map D.int))), some (tbl D.str (s153.2)), some (.li ((([] : (List (List Int)))).map (eTL D.int))), some (.im (D.lst ((([(("even" : Str), ("even" : Str)), (("stand" : Str), ("bow" : Str)), (("bow" : Str), ("stand" : Str)), (("bow" : Str), ("bow" : Str)), (("stand" : Str), ("stand" : Str))] : (List tPair))).map ePair))), some (.im (D.int x106)), some (.im (D.int x153)), some (.im (ePair p190.1)), none]) (s_set (Γ1 := [some (Pot.m2 p190.2), some (.im (D.int many)), some (.im (D.bl is_tame)), some (.im (D.lst (((p95.1)).map D.int))), some (tbl D.str (s153.2)), some (.li ((([] : (List (List Int)))).map (eTL D.int))), some (.im (D.lst ((([(("even" : Str), ("even" : Str)), (("stand" : Str), ("bow" : Str)), (("bow" : Str), ("stand" : Str)), (("bow" : Str), ("bow" : Str)), (("stand" : Str), ("stand" : Str))] : (List tPair))).map ePair))), some (.im (D.int x106)), some (.im (D.int x153)), some (.im (ePair p187)), none]) (m := (.im (ePair p190.1))) 9 sc_l_door.nd rfl (by first | exact Or.inl rfl | exact Or.inr rfl) (np1 hpin (by decide)) (ee_callX (k := 2) (G_l_one.mono (by decide)) hr hG g_l_one kp_l_one b_l_one (ea_cons (ee_tk 0 (pv 0)) (ea_cons (ee_var 6 (pv 6)) ea_nil)) ⟨(p183.2), (([(("even" : Str), ("even" : Str)), (("stand" : Str), ("bow" : Str)), (("bow" : Str), ("stand" : Str)), (("bow" : Str), ("bow" : Str)), (("stand" : Str), ("stand" : Str))] : (List tPair))).map ePair, ((ePair p190.1), p190.2), pickQ_map ePair hp190, .inl rfl, rfl, rfl⟩) ⟨trivial, ⟨trivial, trivial⟩⟩) ?_
        replace e188 := Option.some.inj e188
        subst e188
        exact sl_end ⟨rfl, ⟨rfl, ⟨rfl, ⟨rfl, ⟨rfl, ⟨rfl, ⟨rfl, ⟨rfl, ⟨rfl, ⟨rfl, trivial⟩⟩⟩⟩⟩⟩⟩⟩⟩⟩
      · refine sl_in ?_
        have e189 := (if_f hk).symm.trans hp191
        replace e189 := Option.some.inj e189
        subst e189
        exact sl_end ⟨rfl, ⟨rfl, ⟨rfl, ⟨rfl, ⟨rfl, ⟨rfl, ⟨rfl, ⟨rfl, ⟨rfl, ⟨rfl, trivial⟩⟩⟩⟩⟩⟩⟩⟩⟩⟩
      obtain ⟨p192, hp192, hf153_⟩ := bsplit hf153; replace hf153 := hf153_; clear hf153_
      obtain ⟨p193, hp193, hf153_⟩ := bsplit hf153; replace hf153 := hf153_; clear hf153_
      refine sl_cons (Γ1 := [some (Pot.m2 (p191.1)), some (.im (D.int many)), some (.im (D.bl is_tame)), some (.im (D.lst (((p95.1)).map D.int))), some (tbl D.str p193), some (.li ((([] : (List (List Int)))).map (eTL D.int))), some (.im (D.lst ((([(("even" : Str), ("even" : Str)), (("stand" : Str), ("bow" : Str)), (("bow" : Str), ("stand" : Str)), (("bow" : Str), ("bow" : Str)), (("stand" : Str), ("stand" : Str))] : (List tPair))).map ePair))), some (.im (D.int x106)), some (.im (D.int x153)), some (.im (ePair (p191.2))), none]) (s_unpU (Γ1 := [some (Pot.m2 (p191.1)), some (.im (D.int many)), some (.im (D.bl is_tame)), some (.im (D.lst (((p95.1)).map D.int))), some (tbl D.str (s153.2)), some (.li ((([] : (List (List Int)))).map (eTL D.int))), some (.im (D.lst ((([(("even" : Str), ("even" : Str)), (("stand" : Str), ("bow" : Str)), (("bow" : Str), ("stand" : Str)), (("bow" : Str), ("bow" : Str)), (("stand" : Str), ("stand" : Str))] : (List tPair))).map ePair))), some (.im (D.int x106)), some (.im (D.int x153)), some (.im (ePair (p191.2))), none]) (ee_var 9 (pv 9)) (gu_tup rfl (gus_cons (gu_cell (f := D.str) (x := ((p191.2).1)) 4 (pv 4) rfl (eq_var 7 (pv 7)) (eq_var 8 (pv 8)) hp192) (gus_cons (gu_cell (f := D.str) (x := ((p191.2).2)) 4 (pv 4) rfl (eq_var 8 (pv 8)) (eq_var 7 (pv 7)) hp193) gus_nil)))) ?_
      replace hf153 := Option.some.inj hf153
      subst hf153
      exact sl_end ⟨rfl, ⟨rfl, ⟨rfl, ⟨rfl, ⟨rfl, ⟨rfl, ⟨rfl, ⟨rfl, trivial⟩⟩⟩⟩⟩⟩⟩⟩
    replace hf106 := Option.some.inj hf106
    subst hf106
    exact sl_end ⟨rfl, ⟨rfl, ⟨rfl, ⟨rfl, ⟨rfl, ⟨rfl, ⟨rfl, trivial⟩⟩⟩⟩⟩⟩⟩
  obtain ⟨p196, hp196, h_⟩ := bsplit h; replace h := h_; clear h_
  obtain ⟨p197, hp197, h_⟩ := bsplit h; replace h := h_; clear h_
  obtain ⟨p213, hp213, h_⟩ := bsplit h; replace h := h_; clear h_
  refine sl_cons (Γ1 := [some (Pot.m2 (p213.1)), some (.im (D.int many)), some (.im (D.bl is_tame)), some (.im (D.lst (((p95.1)).map D.int))), some (tbl D.str (p195.2)), some (.li (((p213.2)).map (eTL D.int))), some (.im (D.lst ((([(("even" : Str), ("even" : Str)), (("stand" : Str), ("bow" : Str)), (("bow" : Str), ("stand" : Str)), (("bow" : Str), ("bow" : Str)), (("stand" : Str), ("stand" : Str))] : (List tPair))).map ePair))), none, none, none, none]) (s_for (J := [7]) (enc := D.int) (xs := (rng 0 many)) (hx := (fun v => .hid (.im .non) v)) (cond := (fun _ => True)) (f := (l_door_L3 many)) (s0 := ((p195.1), ([] : (List (List Int))))) (Γs := fun (s198 : (Pot × (List (List Int)))) => [some (Pot.m2 (s198.1)), some (.im (D.int many)), some (.im (D.bl is_tame)), some (.im (D.lst (((p95.1)).map D.int))), some (tbl D.str (p195.2)), some (.li (((s198.2)).map (eTL D.int))), some (.im (D.lst ((([(("even" : Str), ("even" : Str)), (("stand" : Str), ("bow" : Str)), (("bow" : Str), ("stand" : Str)), (("bow" : Str), ("bow" : Str)), (("stand" : Str), ("stand" : Str))] : (List tPair))).map ePair))), none, none, none, none]) (Γt := fun (s198 : (Pot × (List (List Int)))) (x198 : Int) => [some (Pot.m2 (s198.1)), some (.im (D.int many)), some (.im (D.bl is_tame)), some (.im (D.lst (((p95.1)).map D.int))), some (tbl D.str (p195.2)), some (.li (((s198.2)).map (eTL D.int))), some (.im (D.lst ((([(("even" : Str), ("even" : Str)), (("stand" : Str), ("bow" : Str)), (("bow" : Str), ("stand" : Str)), (("bow" : Str), ("bow" : Str)), (("stand" : Str), ("stand" : Str))] : (List tPair))).map ePair))), some (.im (D.int x198)), none, none, none]) rfl Fix.hid (it_wk (Γ1 := [some (Pot.m2 (p195.1)), some (.im (D.int many)), some (.im (D.bl is_tame)), some (.im (D.lst (((p95.1)).map D.int))), some (tbl D.str (p195.2)), some (.li ((([] : (List (List Int)))).map (eTL D.int))), some (.im (D.lst ((([(("even" : Str), ("even" : Str)), (("stand" : Str), ("bow" : Str)), (("bow" : Str), ("stand" : Str)), (("bow" : Str), ("bow" : Str)), (("stand" : Str), ("stand" : Str))] : (List tPair))).map ePair))), none, none, none, none]) (it_rng1 g_range (ee_var 1 (pv 1)) (gd_d hp196) (gd_d hp197)) ⟨rfl, ⟨rfl, ⟨rfl, ⟨rfl, ⟨rfl, ⟨rfl, ⟨rfl, trivial⟩⟩⟩⟩⟩⟩⟩) (fun _ => trivial) ?_ ?_ hp213) ?_
  · intro v198 s198 x198
    exact (gt_name 7 sc_l_door.nd rfl (by first | exact Or.inl rfl | exact Or.inr rfl) (np1 hpin (by decide)) ⟨trivial, trivial⟩ (by decide))
  · intro v198 s198 x198 s_198 hf198
    unfold l_door_L3 at hf198
    refine sl_in ?_
    obtain ⟨p207, hp207, hf198_⟩ := bsplit hf198; replace hf198 := hf198_; clear hf198_
    obtain ⟨p208, hp208, hf198_⟩ := bsplit hf198; replace hf198 := hf198_; clear hf198_
    obtain ⟨p209, hp209, hf198_⟩ := bsplit hf198; replace hf198 := hf198_; clear hf198_
    obtain ⟨p210, hp210, hf198_⟩ := bsplit hf198; replace hf198 := hf198_; clear hf198_
    obtain ⟨p211, hp211, hf198_⟩ := bsplit hf198; replace hf198 := hf198_; clear hf198_
    obtain ⟨p212, hp212, hf198_⟩ := bsplit hf198; replace hf198 := hf198_; clear hf198_
    refine sl_cons (Γ1 := [some (Pot.m2 (p211.2)), some (.im (D.int many)), some (.im (D.bl is_tame)), some (.im (D.lst (((p95.1)).map D.int))), some (tbl D.str (p195.2)), some (.li ((((s198.2) ++ [(p211.1)])).map (eTL D.int))), some (.im (D.lst ((([(("even" : Str), ("even" : Str)), (("stand" : Str), ("bow" : Str)), (("bow" : Str), ("stand" : Str)), (("bow" : Str), ("bow" : Str)), (("stand" : Str), ("stand" : Str))] : (List tPair))).map ePair))), some (.im (D.int x198)), none, none, none]) (s_expr (t := .own (.im D.non)) (ee_appendE (Γ1 := [some (Pot.m2 (p211.2)), some (.im (D.int many)), some (.im (D.bl is_tame)), some (.im (D.lst (((p95.1)).map D.int))), some (tbl D.str (p195.2)), some (.li (((s198.2)).map (eTL D.int))), some (.im (D.lst ((([(("even" : Str), ("even" : Str)), (("stand" : Str), ("bow" : Str)), (("bow" : Str), ("stand" : Str)), (("bow" : Str), ("bow" : Str)), (("stand" : Str), ("stand" : Str))] : (List tPair))).map ePair))), some (.im (D.int x198)), none, none, none]) (enc := (eTL D.int)) (x := (p211.1)) 5 (pv 5) rfl (ee_tupOf (ds := List.map D.int (p211.1)) g_tuple (ee_callX (k := 2) (G_l_mixed.mono (by decide)) hr hG g_l_mixed kp_l_mixed b_l_mixed (ea_cons (ee_tk 0 (pv 0)) (ea_cons (ee_lock (ee_lc (s1 := p210.1) (ys := p210.2) (f := (fun (t206 : Unit) (c206 : Int) => some ((), if (!(decide (c206 = x198))) = true then some c206 else none))) (enc := D.int) (eb := D.int) (xs := (rng 0 many)) (s0 := ()) (hx := (fun v => .hid (.im .non) v)) (cond := (fun _ => True)) (Γs := fun (t206 : Unit) => [none, some (.im (D.int many)), some (.im (D.bl is_tame)), some (.im (D.lst (((p95.1)).map D.int))), some (tbl D.str (p195.2)), some (.li (((s198.2)).map (eTL D.int))), some (.im (D.lst ((([(("even" : Str), ("even" : Str)), (("stand" : Str), ("bow" : Str)), (("bow" : Str), ("stand" : Str)), (("bow" : Str), ("bow" : Str)), (("stand" : Str), ("stand" : Str))] : (List tPair))).map ePair))), some (.im (D.int x198)), none, none, none]) (Γt := fun (t206 : Unit) (c206 : Int) => [none, some (.im (D.int many)), some (.im (D.bl is_tame)), some (.im (D.lst (((p95.1)).map D.int))), some (tbl D.str (p195.2)), some (.li (((s198.2)).map (eTL D.int))), some (.im (D.lst ((([(("even" : Str), ("even" : Str)), (("stand" : Str), ("bow" : Str)), (("bow" : Str), ("stand" : Str)), (("bow" : Str), ("bow" : Str)), (("stand" : Str), ("stand" : Str))] : (List tPair))).map ePair))), some (.im (D.int x198)), some (.im (D.int c206)), none, none]) (Γu := fun (t206 : Unit) (c206 : Int) => [none, some (.im (D.int many)), some (.im (D.bl is_tame)), some (.im (D.lst (((p95.1)).map D.int))), some (tbl D.str (p195.2)), some (.li (((s198.2)).map (eTL D.int))), some (.im (D.lst ((([(("even" : Str), ("even" : Str)), (("stand" : Str), ("bow" : Str)), (("bow" : Str), ("stand" : Str)), (("bow" : Str), ("bow" : Str)), (("stand" : Str), ("stand" : Str))] : (List tPair))).map ePair))), some (.im (D.int x198)), some (.im (D.int c206)), none, none]) (tb := (fun t206 c206 => (!(decide (c206 = x198))))) rfl sc_l_door.nd (blkOk_by (own := [("j", 8)]) (N := N_l_door) (sc := defScope s_l_door) (by decide +kernel))
   { fx := Fix.hid, it := it_wk (Γ1 := [none, some (.im (D.int many)), some (.im (D.bl is_tame)), some (.im (D.lst (((p95.1)).map D.int))), some (tbl D.str (p195.2)), some (.li (((s198.2)).map (eTL D.int))), some (.im (D.lst ((([(("even" : Str), ("even" : Str)), (("stand" : Str), ("bow" : Str)), (("bow" : Str), ("stand" : Str)), (("bow" : Str), ("bow" : Str)), (("stand" : Str), ("stand" : Str))] : (List tPair))).map ePair))), some (.im (D.int x198)), none, none, none]) (it_rng1 g_range (ee_var 1 (pv 1)) (gd_d hp207) (gd_d hp208)) ⟨rfl, ⟨rfl, ⟨rfl, ⟨rfl, ⟨rfl, ⟨rfl, ⟨rfl, trivial⟩⟩⟩⟩⟩⟩⟩, cd := fun _ => trivial, gt := fun s H Ca cl fp v q acc t206 c206 => (gt_name 8 sc_l_door.nd rfl (by first | exact Or.inl rfl | exact Or.inr rfl) (np1 hpin (by decide)) ⟨trivial, ⟨(show (5 : Nat) ≠ 8 by decide), ⟨(show (0 : Nat) ≠ 8 by decide), ⟨trivial, ⟨trivial, trivial⟩⟩⟩⟩⟩ (by decide)), tt := fun s H Ca cl fp v q acc t206 c206 _ => tests1 (et_neI (ee_var 8 (pv 8)) (ee_var 7 (pv 7))),
        el := fun s H Ca cl fp v q acc t206 c206 st' y hk hf => by
            rw [if_t hk] at hf; obtain ⟨hf1, hf2⟩ := Prod.mk.inj (Option.some.inj hf); subst hf1; replace hf2 := Option.some.inj hf2; subst hf2; exact ee_wk (Γ1 := [none, some (.im (D.int many)), some (.im (D.bl is_tame)), some (.im (D.lst (((p95.1)).map D.int))), some (tbl D.str (p195.2)), some (.li (((s198.2)).map (eTL D.int))), some (.im (D.lst ((([(("even" : Str), ("even" : Str)), (("stand" : Str), ("bow" : Str)), (("bow" : Str), ("stand" : Str)), (("bow" : Str), ("bow" : Str)), (("stand" : Str), ("stand" : Str))] : (List tPair))).map ePair))), some (.im (D.int x198)), some (.im (D.int c206)), none, none]) (ee_var 8 (pv 8)) ⟨rfl, ⟨rfl, ⟨rfl, ⟨rfl, ⟨rfl, ⟨rfl, ⟨rfl, trivial⟩⟩⟩⟩⟩⟩⟩,
        ft := fun t206 c206 r hk hf => by cases hf; exact ⟨_, if_t hk⟩,
        ff := fun t206 c206 r hk hf => by cases hf; exact ⟨if_f hk, ⟨rfl, ⟨rfl, ⟨rfl, ⟨rfl, ⟨rfl, ⟨rfl, ⟨rfl, trivial⟩⟩⟩⟩⟩⟩⟩⟩, br := fun _ => (bare_cons rfl bare_nil), fr := (freeJ_cons ⟨trivial, ⟨(show (5 : Nat) ≠ 8 by decide), ⟨(show (0 : Nat) ≠ 8 by decide), trivial⟩⟩⟩ freeJ_nil), fh := fun v => (freeJ_cons ⟨trivial, trivial⟩ freeJ_nil), pn := pnJ hpin (by decide), ln := (gd_d hp209) }
   hp210)) ea_nil)) ⟨(s198.1), p210.2, p211, hp211, rfl, rfl, rfl⟩) .own) rfl (gd_d hp212))) ?_
    replace hf198 := Option.some.inj hf198
    subst hf198
    exact sl_end ⟨rfl, ⟨rfl, ⟨rfl, ⟨rfl, ⟨rfl, ⟨rfl, ⟨rfl, trivial⟩⟩⟩⟩⟩⟩⟩
  refine sl_map (fun _ => ss_lockT 4 (f := D.str) (rows := (p195.2)) rfl) ?_
  refine sl_ctx (Γ1 := [some (Pot.m2 (p213.1)), some (.im (D.int many)), some (.im (D.bl is_tame)), some (.im (D.lst (((p95.1)).map D.int))), some (.im (D.lst (((p195.2)).map (eFL D.str)))), some (.li (((p213.2)).map (eTL D.int))), some (.im (D.lst ((([(("even" : Str), ("even" : Str)), (("stand" : Str), ("bow" : Str)), (("bow" : Str), ("stand" : Str)), (("bow" : Str), ("bow" : Str)), (("stand" : Str), ("stand" : Str))] : (List tPair))).map ePair))), none, none, none, none]) rfl ?_
  obtain ⟨p215, hp215, h_⟩ := bsplit h; replace h := h_; clear h_
  obtain ⟨p216, hp216, h_⟩ := bsplit h; replace h := h_; clear h_
  replace h := Option.some.inj h
  subst h
  exact sl_exit (s_ret (Γ1 := [some (Pot.m2 (p213.1)), some (.im (D.int many)), some (.im (D.bl is_tame)), some (.im (D.lst (((p95.1)).map D.int))), some (.im (D.lst (((p195.2)).map (eFL D.str)))), some (.li (((p213.2)).map (eTL D.int))), some (.im (D.lst ((([(("even" : Str), ("even" : Str)), (("stand" : Str), ("bow" : Str)), (("bow" : Str), ("stand" : Str)), (("bow" : Str), ("bow" : Str)), (("stand" : Str), ("stand" : Str))] : (List tPair))).map ePair))), none, none, none, none]) (m := (.im (eDoor (p216.2, (p213.2))))) (ee_tup (ds := [(D.tup ((p216.2).map eRow)), (D.tup (((p213.2)).map (eTL D.int)))]) (ea_cons (ee_tupOf (ds := List.map eRow p216.2) g_tuple (ee_lc (s1 := p216.1) (ys := p216.2) (f := (fun (t214 : Unit) (c214 : (List Str)) => some ((), some c214))) (enc := (eFL D.str)) (eb := eRow) (xs := ((p195.2))) (s0 := ()) (hx := (fun v => .hid (.im (.lst (((p195.2)).map (eFL D.str)))) v)) (cond := (fun _ => True)) (Γs := fun (t214 : Unit) => [some (Pot.m2 (p213.1)), some (.im (D.int many)), some (.im (D.bl is_tame)), some (.im (D.lst (((p95.1)).map D.int))), some (.im (D.lst (((p195.2)).map (eFL D.str)))), some (.li (((p213.2)).map (eTL D.int))), some (.im (D.lst ((([(("even" : Str), ("even" : Str)), (("stand" : Str), ("bow" : Str)), (("bow" : Str), ("stand" : Str)), (("bow" : Str), ("bow" : Str)), (("stand" : Str), ("stand" : Str))] : (List tPair))).map ePair))), none, none, none, none]) (Γt := fun (t214 : Unit) (c214 : (List Str)) => [some (Pot.m2 (p213.1)), some (.im (D.int many)), some (.im (D.bl is_tame)), some (.im (D.lst (((p95.1)).map D.int))), some (.im (D.lst (((p195.2)).map (eFL D.str)))), some (.li (((p213.2)).map (eTL D.int))), some (.im (D.lst ((([(("even" : Str), ("even" : Str)), (("stand" : Str), ("bow" : Str)), (("bow" : Str), ("stand" : Str)), (("bow" : Str), ("bow" : Str)), (("stand" : Str), ("stand" : Str))] : (List tPair))).map ePair))), none, none, none, some (.im (D.lst ((c214).map D.str)))]) (Γu := fun (t214 : Unit) (c214 : (List Str)) => [some (Pot.m2 (p213.1)), some (.im (D.int many)), some (.im (D.bl is_tame)), some (.im (D.lst (((p95.1)).map D.int))), some (.im (D.lst (((p195.2)).map (eFL D.str)))), some (.li (((p213.2)).map (eTL D.int))), some (.im (D.lst ((([(("even" : Str), ("even" : Str)), (("stand" : Str), ("bow" : Str)), (("bow" : Str), ("stand" : Str)), (("bow" : Str), ("bow" : Str)), (("stand" : Str), ("stand" : Str))] : (List tPair))).map ePair))), none, none, none, some (.im (D.lst ((c214).map D.str)))]) (tb := (fun _ _ => true)) rfl sc_l_door.nd (blkOk_by (own := [("row", 10)]) (N := N_l_door) (sc := defScope s_l_door) (by decide +kernel))
   { fx := Fix.hid, it := it_wk (Γ1 := [some (Pot.m2 (p213.1)), some (.im (D.int many)), some (.im (D.bl is_tame)), some (.im (D.lst (((p95.1)).map D.int))), some (.im (D.lst (((p195.2)).map (eFL D.str)))), some (.li (((p213.2)).map (eTL D.int))), some (.im (D.lst ((([(("even" : Str), ("even" : Str)), (("stand" : Str), ("bow" : Str)), (("bow" : Str), ("stand" : Str)), (("bow" : Str), ("bow" : Str)), (("stand" : Str), ("stand" : Str))] : (List tPair))).map ePair))), none, none, none, none]) (it_lstF (ee_var 4 (pv 4))) ⟨rfl, ⟨rfl, ⟨rfl, ⟨rfl, ⟨rfl, ⟨rfl, ⟨rfl, trivial⟩⟩⟩⟩⟩⟩⟩, cd := fun _ => trivial, gt := fun s H Ca cl fp v q acc t214 c214 => (gt_name 10 sc_l_door.nd rfl (by first | exact Or.inl rfl | exact Or.inr rfl) (np1 hpin (by decide)) ⟨trivial, ⟨trivial, trivial⟩⟩ (by decide)), tt := fun s H Ca cl fp v q acc t214 c214 _ => tests0,
        el := fun s H Ca cl fp v q acc t214 c214 st' y hk hf => by
            obtain ⟨hf1, hf2⟩ := Prod.mk.inj (Option.some.inj hf); subst hf1; replace hf2 := Option.some.inj hf2; subst hf2; exact ee_wk (Γ1 := [some (Pot.m2 (p213.1)), some (.im (D.int many)), some (.im (D.bl is_tame)), some (.im (D.lst (((p95.1)).map D.int))), some (.im (D.lst (((p195.2)).map (eFL D.str)))), some (.li (((p213.2)).map (eTL D.int))), some (.im (D.lst ((([(("even" : Str), ("even" : Str)), (("stand" : Str), ("bow" : Str)), (("bow" : Str), ("stand" : Str)), (("bow" : Str), ("bow" : Str)), (("stand" : Str), ("stand" : Str))] : (List tPair))).map ePair))), none, none, none, some (.im (D.lst ((c214).map D.str)))]) (ee_tupOf (ds := List.map D.str c214) g_tuple (ee_var 10 (pv 10)) .fz) ⟨rfl, ⟨rfl, ⟨rfl, ⟨rfl, ⟨rfl, ⟨rfl, ⟨rfl, trivial⟩⟩⟩⟩⟩⟩⟩,
        ft := fun t214 c214 r hk hf => by
            cases hf; exact ⟨_, rfl⟩,
        ff := fun t214 c214 r hk hf => Bool.noConfusion hk, br := fun _ => (bare_cons rfl bare_nil), fr := (freeJ_cons trivial freeJ_nil), fh := fun v => (freeJ_cons ⟨trivial, trivial⟩ freeJ_nil), pn := pnJ hpin (by decide), ln := (gd_d hp215) }
   hp216) .own) (ea_cons (ee_tupOf (ds := List.map (eTL D.int) (p213.2)) g_tuple (ee_al 5 (pv 5)) (.al rfl)) ea_nil)) (show 2 ≤ 1000 by decide)) ⟨rfl, trivial⟩) rfl
/-! ### law_house -/
abbrev N_l_house : List Str := ["pot", "hands", "rooms", "steps", "kinds", "found", "ways", "room", "hand", "few", "some"]
theorem sc_l_house : FnScope N_l_house ["pot", "hands", "rooms", "steps", "kinds"] (defScope s_l_house) := ⟨rfl, rfl, rfl, by decide +kernel, rfl, by decide +kernel, by decide +kernel⟩
def l_house_L1 (hands : Int) (kinds : (Bool × Bool × Int)) (s : (Pot × (List (Option tDoor)))) (x : Int) : Option (Pot × (List (Option tDoor))) := (drawQ_m (s.1) 6).bind fun p220 => (if (decide ((p220.1) < (kinds.2.2))) = true then ((l_door_m (p220.2) hands (kinds.1)).bind fun p223 => some ((some (p223.1)), (p223.2))) else (some (none, (p220.2)))).bind fun p224 => (gd (decide (((s.2)).length < sizeLine))).bind fun p225 => some ((p224.2), ((s.2) ++ [(p224.1)]))
def l_house_L2 (rooms : Int) (steps : Int) (kinds : (Bool × Bool × Int)) (s : (Pot × (List tWay))) (x : Int) : Option (Pot × (List tWay)) := (drawQ_m (s.1) (steps / 2)).bind fun p236 => (gd (decide (-(2 ^ 62) ≤ rooms))).bind fun p238 => (gd (decide (rooms < 2 ^ 62))).bind fun p239 => (gd (decide (((rng 0 rooms)).length ≤ sizeLine))).bind fun p240 => (lcM (fun (t237 : Pot) (c237 : Int) => (((drawQ_m t237 3).bind fun p241 => some ((decide (0 < (p241.1))), (p241.2)))).bind fun tq => if tq.1 = true then (some (tq.2, some c237)) else some (tq.2, none)) (p236.2) (rng 0 rooms)).bind fun p242 => (if (!(p242.2).isEmpty) = true then (some (p242.2, (p242.1))) else ((drawQ_m (p242.1) rooms).bind fun p245 => some (([(p245.1)] : (List Int)), (p245.2)))).bind fun p246 => (l_way_m (p246.2) (p246.1) (2 + (2 * (p236.1))) (kinds.2.1)).bind fun p247 => (gd (decide (((s.2)).length < sizeLine))).bind fun p248 => some ((p247.2), ((s.2) ++ [(p247.1)]))
def l_house_m (pot : Pot) (hands : Int) (rooms : Int) (steps : Int) (kinds : (Bool × Bool × Int)) : Option (tHouse × Pot) := (gd (decide (-(2 ^ 62) ≤ rooms))).bind fun p217 => (gd (decide (rooms < 2 ^ 62))).bind fun p218 => (forS (l_house_L1 hands kinds) (pot, ([] : (List (Option tDoor)))) (rng 0 rooms)).bind fun p232 => (gd (decide (-(2 ^ 62) ≤ hands))).bind fun p233 => (gd (decide (hands < 2 ^ 62))).bind fun p234 => (forS (l_house_L2 rooms steps kinds) ((p232.1), ([] : (List tWay))) (rng 0 hands)).bind fun p262 => some (((p232.2), (p262.2)), (p262.1))
abbrev l_houseR : List M → M → List M → Prop := fun ms r ms' => ∃ (pot : Pot) (hands : Int) (rooms : Int) (steps : Int) (kinds : (Bool × Bool × Int)) (out : (tHouse × Pot)), l_house_m pot hands rooms steps kinds = some out ∧ ms = [(Pot.m2 pot), (.im (D.int hands)), (.im (D.int rooms)), (.im (D.int steps)), (.im ((eT3 D.bl D.bl D.int) kinds))] ∧ r = (.im (eHouse (out.1))) ∧ ms' = [(Pot.m2 (out.2))]
theorem l_house_ok {P : Program} {w : World} {K : PySem.W.Frag} {mg : Str → Option Value} {base : Heap} {f : Addr} {fd : FuncData} (F : FnP K "_law_house" s_l_house f fd) {f_l_of : Addr} {fd_l_of : FuncData} (G_l_of : FnG P w K mg base 1 f_l_of fd_l_of ["pot", "many"] (spR K 2 [0] drawQR)) (F_l_of : FnP K "_law_of" s_l_of f_l_of fd_l_of) (g_l_of : mg "_law_of" = some (.ref f_l_of)) {f_l_way : Addr} {fd_l_way : FuncData} (G_l_way : FnG P w K mg base 3 f_l_way fd_l_way ["pot", "rooms", "steps", "is_rising"] (spR K 4 [0] l_wayR)) (F_l_way : FnP K "_law_way" s_l_way f_l_way fd_l_way) (g_l_way : mg "_law_way" = some (.ref f_l_way)) {f_l_door : Addr} {fd_l_door : FuncData} (G_l_door : FnG P w K mg base 3 f_l_door fd_l_door ["pot", "many", "is_tame"] (spR K 3 [0] l_doorR)) (F_l_door : FnP K "_law_door" s_l_door f_l_door fd_l_door) (g_l_door : mg "_law_door" = some (.ref f_l_door)) (g_range : mg "range" = none) (g_tuple : mg "tuple" = none) : FnG P w K mg base 4 f fd ["pot", "hands", "rooms", "steps", "kinds"] (spR K 5 [0] l_houseR) := by
  refine fn_body (k := 3) F sc_l_house rfl (by decide) (by decide) (by decide) (by rintro ms r ms' ⟨pot, hands, rooms, steps, kinds, out, _, rfl, _, rfl⟩; exact ⟨rfl, rfl⟩) ?_
  rintro cdv A outer s H E H0 io pin mio hpin hr hG ms r ms' ⟨pot, hands, rooms, steps, kinds, out, h, rfl, rfl, rfl⟩
  refine ⟨[some (Pot.m2 (out.2)), none, none, none, none, none, none, none, none, none, none], ?_, fun k i m h1 h2 => match k, h1, h2 with | 0, h1, h2 => by cases h1; cases h2; rfl⟩
  unfold l_house_m at h
  refine sl_in ?_
  have kp_l_of := F_l_of.kp
  have b_l_of : Binds K fd_l_of ["pot", "many"] [] := F_l_of.bindsN fun _ _ _ _ _ _ us hl => match us, hl with | [_, _], _ => rfl
  have kp_l_way := F_l_way.kp
  have b_l_way : Binds K fd_l_way ["pot", "rooms", "steps", "is_rising"] [] := F_l_way.bindsN fun _ _ _ _ _ _ us hl => match us, hl with | [_, _, _, _], _ => rfl
  have kp_l_door := F_l_door.kp
  have b_l_door : Binds K fd_l_door ["pot", "many", "is_tame"] [] := F_l_door.bindsN fun _ _ _ _ _ _ us hl => match us, hl with | [_, _, _], _ => rfl
  refine sl_cons (Γ1 := [some (Pot.m2 pot), some (.im (D.int hands)), some (.im (D.int rooms)), some (.im (D.int steps)), some (.im ((eT3 D.bl D.bl D.int) kinds)), some (.li ((([] : (List (Option tDoor)))).map (eO eDoor))), some (.li ((([] : (List tWay))).map eWay)), none, none, none, none]) (s_par2 (Γ1 := [some (Pot.m2 pot), some (.im (D.int hands)), some (.im (D.int rooms)), some (.im (D.int steps)), some (.im ((eT3 D.bl D.bl D.int) kinds)), none, none, none, none, none, none]) (m1 := (.li ((([] : (List (Option tDoor)))).map (eO eDoor)))) (m2 := (.li ((([] : (List tWay))).map eWay))) 5 6 rfl sc_l_house.nd rfl rfl (by decide) rfl rfl (np1 hpin (by decide)) (np1 hpin (by decide)) trivial trivial (ea_cons (ee_lst (ds := []) ea_nil (show 0 ≤ 1000 by decide)) (ea_cons (ee_lst (ds := []) ea_nil (show 0 ≤ 1000 by decide)) ea_nil))) ?_
  obtain ⟨p217, hp217, h_⟩ := bsplit h; replace h := h_; clear h_
  obtain ⟨p218, hp218, h_⟩ := bsplit h; replace h := h_; clear h_
  obtain ⟨p232, hp232, h_⟩ := bsplit h; replace h := h_; clear h_
  refine sl_cons (Γ1 := [some (Pot.m2 (p232.1)), some (.im (D.int hands)), some (.im (D.int rooms)), some (.im (D.int steps)), some (.im ((eT3 D.bl D.bl D.int) kinds)), some (.li (((p232.2)).map (eO eDoor))), some (.li ((([] : (List tWay))).map eWay)), none, none, none, none]) (s_for (J := [7]) (enc := D.int) (xs := (rng 0 rooms)) (hx := (fun v => .hid (.im .non) v)) (cond := (fun _ => True)) (f := (l_house_L1 hands kinds)) (s0 := (pot, ([] : (List (Option tDoor))))) (Γs := fun (s219 : (Pot × (List (Option tDoor)))) => [some (Pot.m2 (s219.1)), some (.im (D.int hands)), some (.im (D.int rooms)), some (.im (D.int steps)), some (.im ((eT3 D.bl D.bl D.int) kinds)), some (.li (((s219.2)).map (eO eDoor))), some (.li ((([] : (List tWay))).map eWay)), none, none, none, none]) (Γt := fun (s219 : (Pot × (List (Option tDoor)))) (x219 : Int) => [some (Pot.m2 (s219.1)), some (.im (D.int hands)), some (.im (D.int rooms)), some (.im (D.int steps)), some (.im ((eT3 D.bl D.bl D.int) kinds)), some (.li (((s219.2)).map (eO eDoor))), some (.li ((([] : (List tWay))).map eWay)), some (.im (D.int x219)), none, none, none]) rfl Fix.hid (it_wk (Γ1 := [some (Pot.m2 pot), some (.im (D.int hands)), some (.im (D.int rooms)), some (.im (D.int steps)), some (.im ((eT3 D.bl D.bl D.int) kinds)), some (.li ((([] : (List (Option tDoor)))).map (eO eDoor))), some (.li ((([] : (List tWay))).map eWay)), none, none, none, none]) (it_rng1 g_range (ee_var 2 (pv 2)) (gd_d hp217) (gd_d hp218)) ⟨rfl, ⟨rfl, ⟨rfl, ⟨rfl, ⟨rfl, ⟨rfl, ⟨rfl, trivial⟩⟩⟩⟩⟩⟩⟩) (fun _ => trivial) ?_ ?_ hp232) ?_
  · intro v219 s219 x219
    exact (gt_name 7 sc_l_house.nd rfl (by first | exact Or.inl rfl | exact Or.inr rfl) (np1 hpin (by decide)) ⟨trivial, trivial⟩ (by decide))
  · intro v219 s219 x219 s_219 hf219
    unfold l_house_L1 at hf219
    refine sl_in ?_
    obtain ⟨p226, hp226, hf219_⟩ := bsplit hf219; replace hf219 := hf219_; clear hf219_
    obtain ⟨p230, hp230, hf219_⟩ := bsplit hf219; replace hf219 := hf219_; clear hf219_
    obtain ⟨p231, hp231, hf219_⟩ := bsplit hf219; replace hf219 := hf219_; clear hf219_
    refine sl_cons (Γ1 := [some (Pot.m2 (p230.2)), some (.im (D.int hands)), some (.im (D.int rooms)), some (.im (D.int steps)), some (.im ((eT3 D.bl D.bl D.int) kinds)), some (.li ((((s219.2) ++ [(p230.1)])).map (eO eDoor))), some (.li ((([] : (List tWay))).map eWay)), some (.im (D.int x219)), none, none, none]) (s_expr (t := .own (.im D.non)) (ee_appendE (Γ1 := [some (Pot.m2 (p230.2)), some (.im (D.int hands)), some (.im (D.int rooms)), some (.im (D.int steps)), some (.im ((eT3 D.bl D.bl D.int) kinds)), some (.li (((s219.2)).map (eO eDoor))), some (.li ((([] : (List tWay))).map eWay)), some (.im (D.int x219)), none, none, none]) (enc := (eO eDoor)) (x := (p230.1)) 5 (pv 5) rfl (ee_if (t := .own (.im ((eO eDoor) (p230.1)))) (Γ' := [some (Pot.m2 (p230.2)), some (.im (D.int hands)), some (.im (D.int rooms)), some (.im (D.int steps)), some (.im ((eT3 D.bl D.bl D.int) kinds)), some (.li (((s219.2)).map (eO eDoor))), some (.li ((([] : (List tWay))).map eWay)), some (.im (D.int x219)), none, none, none]) (et_lt (ee_callX (k := 3) (G_l_of.mono (by decide)) hr hG g_l_of kp_l_of b_l_of (ea_cons (ee_tk 0 (pv 0)) (ea_cons ee_int ea_nil)) ⟨(s219.1), 6, p226, hp226, rfl, rfl, rfl⟩) (ee_ixT (ee_var 4 (pv 4)) ee_int rfl)) (fun hk => by
            have e227 := (if_t hk).symm.trans hp230; obtain ⟨p229, hp229, e227_⟩ := bsplit e227; replace e227 := e227_; clear e227_; replace e227 := Option.some.inj e227; subst e227; exact (ee_callX (k := 3) (G_l_door.mono (by decide)) hr hG g_l_door kp_l_door b_l_door (ea_cons (ee_tk 0 (pv 0)) (ea_cons (ee_var 1 (pv 1)) (ea_cons (ee_ixT (ee_var 4 (pv 4)) ee_int rfl) ea_nil))) ⟨(p226.2), hands, (kinds.1), p229, hp229, rfl, rfl, rfl⟩)) (fun hk => by
            have e228 := (if_f hk).symm.trans hp230; replace e228 := Option.some.inj e228; subst e228; exact ee_non)) rfl (gd_d hp231))) ?_
    replace hf219 := Option.some.inj hf219
    subst hf219
    exact sl_end ⟨rfl, ⟨rfl, ⟨rfl, ⟨rfl, ⟨rfl, ⟨rfl, ⟨rfl, trivial⟩⟩⟩⟩⟩⟩⟩
  obtain ⟨p233, hp233, h_⟩ := bsplit h; replace h := h_; clear h_
  obtain ⟨p234, hp234, h_⟩ := bsplit h; replace h := h_; clear h_
  obtain ⟨p262, hp262, h_⟩ := bsplit h; replace h := h_; clear h_
  refine sl_cons (Γ1 := [some (Pot.m2 (p262.1)), some (.im (D.int hands)), some (.im (D.int rooms)), some (.im (D.int steps)), some (.im ((eT3 D.bl D.bl D.int) kinds)), some (.li (((p232.2)).map (eO eDoor))), some (.li (((p262.2)).map eWay)), none, none, none, none]) (s_for (J := [8]) (enc := D.int) (xs := (rng 0 hands)) (hx := (fun v => .hid (.im .non) v)) (cond := (fun _ => True)) (f := (l_house_L2 rooms steps kinds)) (s0 := ((p232.1), ([] : (List tWay)))) (Γs := fun (s235 : (Pot × (List tWay))) => [some (Pot.m2 (s235.1)), some (.im (D.int hands)), some (.im (D.int rooms)), some (.im (D.int steps)), some (.im ((eT3 D.bl D.bl D.int) kinds)), some (.li (((p232.2)).map (eO eDoor))), some (.li (((s235.2)).map eWay)), none, none, none, none]) (Γt := fun (s235 : (Pot × (List tWay))) (x235 : Int) => [some (Pot.m2 (s235.1)), some (.im (D.int hands)), some (.im (D.int rooms)), some (.im (D.int steps)), some (.im ((eT3 D.bl D.bl D.int) kinds)), some (.li (((p232.2)).map (eO eDoor))), some (.li (((s235.2)).map eWay)), none, some (.im (D.int x235)), none, none]) rfl Fix.hid (it_wk (Γ1 := [some (Pot.m2 (p232.1)), some (.im (D.int hands)), some (.im (D.int rooms)), some (.im (D.int steps)), some (.im ((eT3 D.bl D.bl D.int) kinds)), some (.li (((p232.2)).map (eO eDoor))), some (.li ((([] : (List tWay))).map eWay)), none, none, none, none]) (it_rng1 g_range (ee_var 1 (pv 1)) (gd_d hp233) (gd_d hp234)) ⟨rfl, ⟨rfl, ⟨rfl, ⟨rfl, ⟨rfl, ⟨rfl, ⟨rfl, trivial⟩⟩⟩⟩⟩⟩⟩) (fun _ => trivial) ?_ ?_ hp262) ?_
  · intro v235 s235 x235
    exact (gt_name 8 sc_l_house.nd rfl (by first | exact Or.inl rfl | exact Or.inr rfl) (np1 hpin (by decide)) ⟨trivial, trivial⟩ (by decide))
  · intro v235 s235 x235 s_235 hf235
    unfold l_house_L2 at hf235
    refine sl_in ?_
    obtain ⟨p249, hp249, hf235_⟩ := bsplit hf235; replace hf235 := hf235_; clear hf235_
    refine sl_cons (Γ1 := [some (Pot.m2 (p249.2)), some (.im (D.int hands)), some (.im (D.int rooms)), some (.im (D.int steps)), some (.im ((eT3 D.bl D.bl D.int) kinds)), some (.li (((p232.2)).map (eO eDoor))), some (.li (((s235.2)).map eWay)), none, some (.im (D.int x235)), some (.im (D.int (2 + (2 * (p249.1))))), none]) (s_set (Γ1 := [some (Pot.m2 (p249.2)), some (.im (D.int hands)), some (.im (D.int rooms)), some (.im (D.int steps)), some (.im ((eT3 D.bl D.bl D.int) kinds)), some (.li (((p232.2)).map (eO eDoor))), some (.li (((s235.2)).map eWay)), none, some (.im (D.int x235)), none, none]) (m := (.im (D.int (2 + (2 * (p249.1)))))) 9 sc_l_house.nd rfl (by first | exact Or.inl rfl | exact Or.inr rfl) (np1 hpin (by decide)) (ee_add ee_int (ee_mul (.inl ⟨by decide, by decide⟩) ee_int (ee_callX (k := 3) (G_l_of.mono (by decide)) hr hG g_l_of kp_l_of b_l_of (ea_cons (ee_tk 0 (pv 0)) (ea_cons (ee_fdivW ⟨by decide, by decide +kernel⟩ (ee_var 3 (pv 3)) ee_int) ea_nil)) ⟨(s235.1), (steps / 2), p249, hp249, rfl, rfl, rfl⟩))) ⟨trivial, trivial⟩) ?_
    obtain ⟨p251, hp251, hf235_⟩ := bsplit hf235; replace hf235 := hf235_; clear hf235_
    obtain ⟨p252, hp252, hf235_⟩ := bsplit hf235; replace hf235 := hf235_; clear hf235_
    obtain ⟨p253, hp253, hf235_⟩ := bsplit hf235; replace hf235 := hf235_; clear hf235_
    obtain ⟨p255, hp255, hf235_⟩ := bsplit hf235; replace hf235 := hf235_; clear hf235_
    refine sl_cons (Γ1 := [some (Pot.m2 (p255.1)), some (.im (D.int hands)), some (.im (D.int rooms)), some (.im (D.int steps)), some (.im ((eT3 D.bl D.bl D.int) kinds)), some (.li (((p232.2)).map (eO eDoor))), some (.li (((s235.2)).map eWay)), none, some (.im (D.int x235)), some (.im (D.int (2 + (2 * (p249.1))))), some (.im (D.lst ((p255.2).map D.int)))]) (s_lock 10 (Γ1 := [some (Pot.m2 (p255.1)), some (.im (D.int hands)), some (.im (D.int rooms)), some (.im (D.int steps)), some (.im ((eT3 D.bl D.bl D.int) kinds)), some (.li (((p232.2)).map (eO eDoor))), some (.li (((s235.2)).map eWay)), none, some (.im (D.int x235)), some (.im (D.int (2 + (2 * (p249.1))))), some (.li ((p255.2).map D.int))]) (s_setLc 10 (s1 := p255.1) (ys := p255.2) (f := (fun (t250 : Pot) (c250 : Int) => (((drawQ_m t250 3).bind fun p254 => some ((decide (0 < (p254.1))), (p254.2)))).bind fun tq => if tq.1 = true then (some (tq.2, some c250)) else some (tq.2, none))) (enc := D.int) (eb := D.int) (xs := (rng 0 rooms)) (s0 := (p249.2)) (hx := (fun v => .hid (.im .non) v)) (cond := (fun _ => True)) (Γs := fun (t250 : Pot) => [some (Pot.m2 t250), some (.im (D.int hands)), some (.im (D.int rooms)), some (.im (D.int steps)), some (.im ((eT3 D.bl D.bl D.int) kinds)), some (.li (((p232.2)).map (eO eDoor))), some (.li (((s235.2)).map eWay)), none, some (.im (D.int x235)), some (.im (D.int (2 + (2 * (p249.1))))), none]) (Γt := fun (t250 : Pot) (c250 : Int) => [some (Pot.m2 t250), some (.im (D.int hands)), some (.im (D.int rooms)), some (.im (D.int steps)), some (.im ((eT3 D.bl D.bl D.int) kinds)), some (.li (((p232.2)).map (eO eDoor))), some (.li (((s235.2)).map eWay)), some (.im (D.int c250)), some (.im (D.int x235)), some (.im (D.int (2 + (2 * (p249.1))))), none]) (Γu := fun (t250 : Pot) (c250 : Int) => [some (Pot.m2 (st2 t250 ((drawQ_m t250 3).bind fun p254 => some ((decide (0 < (p254.1))), (p254.2))))), some (.im (D.int hands)), some (.im (D.int rooms)), some (.im (D.int steps)), some (.im ((eT3 D.bl D.bl D.int) kinds)), some (.li (((p232.2)).map (eO eDoor))), some (.li (((s235.2)).map eWay)), some (.im (D.int c250)), some (.im (D.int x235)), some (.im (D.int (2 + (2 * (p249.1))))), none]) (tb := (fun t250 c250 => tb2 ((drawQ_m t250 3).bind fun p254 => some ((decide (0 < (p254.1))), (p254.2))))) rfl sc_l_house.nd rfl rfl (np1 hpin (by decide)) ⟨trivial, trivial⟩ (blkOk_by (own := [("room", 7)]) (N := N_l_house) (sc := defScope s_l_house) (by decide +kernel))
   { fx := Fix.hid, it := it_wk (Γ1 := [some (Pot.m2 (p249.2)), some (.im (D.int hands)), some (.im (D.int rooms)), some (.im (D.int steps)), some (.im ((eT3 D.bl D.bl D.int) kinds)), some (.li (((p232.2)).map (eO eDoor))), some (.li (((s235.2)).map eWay)), none, some (.im (D.int x235)), some (.im (D.int (2 + (2 * (p249.1))))), none]) (it_rng1 g_range (ee_var 2 (pv 2)) (gd_d hp251) (gd_d hp252)) ⟨rfl, ⟨rfl, ⟨rfl, ⟨rfl, ⟨rfl, ⟨rfl, ⟨rfl, ⟨rfl, ⟨rfl, trivial⟩⟩⟩⟩⟩⟩⟩⟩⟩, cd := fun _ => trivial, gt := fun s H Ca cl fp v q acc t250 c250 => (gt_name 7 sc_l_house.nd rfl (by first | exact Or.inl rfl | exact Or.inr rfl) (np1 hpin (by decide)) ⟨trivial, ⟨trivial, ⟨trivial, trivial⟩⟩⟩ (by decide)), tt := fun s H Ca cl fp v q acc t250 c250 ⟨rq, hrq⟩ => by
            obtain ⟨t, ht, hrq⟩ := bsplit hrq; have hz : tb2 ((drawQ_m t250 3).bind fun p254 => some ((decide (0 < (p254.1))), (p254.2))) = t.1 := tb2_t ht; have hz2 : st2 t250 ((drawQ_m t250 3).bind fun p254 => some ((decide (0 < (p254.1))), (p254.2))) = t.2 := st2_t ht; obtain ⟨p254, hp254, ht_⟩ := bsplit ht; replace ht := ht_; clear ht_; replace ht := Option.some.inj ht; subst ht; rw [hz, hz2]; exact (tests1 (et_gt (ee_callX (k := 3) (G_l_of.mono (by decide)) hr hG g_l_of kp_l_of b_l_of (ea_cons (ee_tk 0 (pv 0)) (ea_cons ee_int ea_nil)) ⟨t250, 3, p254, hp254, rfl, rfl, rfl⟩) ee_int)),
        el := fun s H Ca cl fp v q acc t250 c250 st' y hk hf => by
            obtain ⟨tq, ht, hf_⟩ := bsplit hf; replace hf := hf_; clear hf_; have hk : tq.1 = true := (tb2_t ht).symm.trans hk; have hz2 : st2 t250 ((drawQ_m t250 3).bind fun p254 => some ((decide (0 < (p254.1))), (p254.2))) = tq.2 := st2_t ht; replace hf := (if_t hk).symm.trans hf; obtain ⟨hf1, hf2⟩ := Prod.mk.inj (Option.some.inj hf); subst hf1; replace hf2 := Option.some.inj hf2; subst hf2; rw [hz2]; exact ee_wk (Γ1 := [some (Pot.m2 tq.2), some (.im (D.int hands)), some (.im (D.int rooms)), some (.im (D.int steps)), some (.im ((eT3 D.bl D.bl D.int) kinds)), some (.li (((p232.2)).map (eO eDoor))), some (.li (((s235.2)).map eWay)), some (.im (D.int c250)), some (.im (D.int x235)), some (.im (D.int (2 + (2 * (p249.1))))), none]) (ee_var 7 (pv 7)) ⟨rfl, ⟨rfl, ⟨rfl, ⟨rfl, ⟨rfl, ⟨rfl, ⟨rfl, ⟨rfl, ⟨rfl, trivial⟩⟩⟩⟩⟩⟩⟩⟩⟩,
        ft := fun t250 c250 r hk hf => by
            obtain ⟨tq, ht, hf_⟩ := bsplit hf; replace hf := hf_; clear hf_; have hk : tq.1 = true := (tb2_t ht).symm.trans hk; have hz2 : st2 t250 ((drawQ_m t250 3).bind fun p254 => some ((decide (0 < (p254.1))), (p254.2))) = tq.2 := st2_t ht; replace hf := (if_t hk).symm.trans hf; cases hf; exact ⟨_, rfl⟩,
        ff := fun t250 c250 r hk hf => by obtain ⟨tq, ht, hf_⟩ := bsplit hf; replace hf := hf_; clear hf_; have hk : tq.1 = false := (tb2_t ht).symm.trans hk; have hz2 : st2 t250 ((drawQ_m t250 3).bind fun p254 => some ((decide (0 < (p254.1))), (p254.2))) = tq.2 := st2_t ht; replace hf := (if_f hk).symm.trans hf; cases hf; exact ⟨rfl, by rw [hz2]; exact ⟨rfl, ⟨rfl, ⟨rfl, ⟨rfl, ⟨rfl, ⟨rfl, ⟨rfl, ⟨rfl, ⟨rfl, trivial⟩⟩⟩⟩⟩⟩⟩⟩⟩⟩, br := fun _ => (bare_cons rfl bare_nil), fr := (freeJ_cons ⟨trivial, trivial⟩ freeJ_nil), fh := fun v => (freeJ_cons ⟨trivial, trivial⟩ freeJ_nil), pn := pnJ hpin (by decide), ln := (gd_d hp253) }
   hp255 (sw_true rfl rfl rfl (by decide +kernel))) rfl) ?_
    obtain ⟨p259, hp259, hf235_⟩ := bsplit hf235; replace hf235 := hf235_; clear hf235_
    obtain ⟨p260, hp260, hf235_⟩ := bsplit hf235; replace hf235 := hf235_; clear hf235_
    obtain ⟨p261, hp261, hf235_⟩ := bsplit hf235; replace hf235 := hf235_; clear hf235_
    refine sl_cons (Γ1 := [some (Pot.m2 (p260.2)), some (.im (D.int hands)), some (.im (D.int rooms)), some (.im (D.int steps)), some (.im ((eT3 D.bl D.bl D.int) kinds)), some (.li (((p232.2)).map (eO eDoor))), some (.li ((((s235.2) ++ [(p260.1)])).map eWay)), none, some (.im (D.int x235)), some (.im (D.int (2 + (2 * (p249.1))))), some (.im (D.lst ((p255.2).map D.int)))]) (s_expr (t := .own (.im D.non)) (ee_appendE (Γ1 := [some (Pot.m2 (p260.2)), some (.im (D.int hands)), some (.im (D.int rooms)), some (.im (D.int steps)), some (.im ((eT3 D.bl D.bl D.int) kinds)), some (.li (((p232.2)).map (eO eDoor))), some (.li (((s235.2)).map eWay)), none, some (.im (D.int x235)), some (.im (D.int (2 + (2 * (p249.1))))), some (.im (D.lst ((p255.2).map D.int)))]) (enc := eWay) (x := (p260.1)) 6 (pv 6) rfl (ee_callX (k := 3) (G_l_way.mono (by decide)) hr hG g_l_way kp_l_way b_l_way (ea_late (ea_cons (ee_al 0 (pv 0)) (ea_cons (ee_if (t := .own (.im (D.lst (((p259.1)).map D.int)))) (Γ' := [some (Pot.m2 (p259.2)), some (.im (D.int hands)), some (.im (D.int rooms)), some (.im (D.int steps)), some (.im ((eT3 D.bl D.bl D.int) kinds)), some (.li (((p232.2)).map (eO eDoor))), some (.li (((s235.2)).map eWay)), none, some (.im (D.int x235)), some (.im (D.int (2 + (2 * (p249.1))))), some (.im (D.lst ((p255.2).map D.int)))]) (et_neNilE (enc := D.int) hr.units (ee_var 10 (pv 10)) .fz (oks_map _ fun _ _ => rfl)) (fun hk => by
            have e256 := (if_t hk).symm.trans hp259; replace e256 := Option.some.inj e256; subst e256; exact (ee_var 10 (pv 10))) (fun hk => by
            have e257 := (if_f hk).symm.trans hp259; obtain ⟨p258, hp258, e257_⟩ := bsplit e257; replace e257 := e257_; clear e257_; replace e257 := Option.some.inj e257; subst e257; exact (ee_lock (ee_lst (ds := [(D.int (p258.1))]) (ea_cons (ee_callX (k := 3) (G_l_of.mono (by decide)) hr hG g_l_of kp_l_of b_l_of (ea_cons (ee_tk 0 (pv 0)) (ea_cons (ee_var 2 (pv 2)) ea_nil)) ⟨(p255.1), rooms, p258, hp258, rfl, rfl, rfl⟩) ea_nil) (show 1 ≤ 1000 by decide))))) (ea_cons (ee_var 9 (pv 9)) (ea_cons (ee_ixT (ee_var 4 (pv 4)) ee_int rfl) ea_nil))))) ⟨(p259.2), (p259.1), (2 + (2 * (p249.1))), (kinds.2.1), p260, hp260, rfl, rfl, rfl⟩) rfl (gd_d hp261))) ?_
    replace hf235 := Option.some.inj hf235
    subst hf235
    exact sl_end ⟨rfl, ⟨rfl, ⟨rfl, ⟨rfl, ⟨rfl, ⟨rfl, ⟨rfl, trivial⟩⟩⟩⟩⟩⟩⟩
  replace h := Option.some.inj h
  subst h
  exact sl_exit (s_ret (Γ1 := [some (Pot.m2 (p262.1)), some (.im (D.int hands)), some (.im (D.int rooms)), some (.im (D.int steps)), some (.im ((eT3 D.bl D.bl D.int) kinds)), some (.li (((p232.2)).map (eO eDoor))), some (.li (((p262.2)).map eWay)), none, none, none, none]) (m := (.im (eHouse ((p232.2), (p262.2))))) (ee_tup (ds := [(D.tup (((p232.2)).map (eO eDoor))), (D.tup (((p262.2)).map eWay))]) (ea_cons (ee_tupOf (ds := List.map (eO eDoor) (p232.2)) g_tuple (ee_al 5 (pv 5)) (.al rfl)) (ea_cons (ee_tupOf (ds := List.map eWay (p262.2)) g_tuple (ee_al 6 (pv 6)) (.al rfl)) ea_nil)) (show 2 ≤ 1000 by decide)) ⟨rfl, trivial⟩) rfl
/-! ### law_heard -/
abbrev N_l_heard : List Str := ["call", "error"]
theorem sc_l_heard : FnScope N_l_heard ["call"] (defScope s_l_heard) := ⟨rfl, rfl, rfl, by decide +kernel, rfl, by decide +kernel, by decide +kernel⟩
def l_heard_T1 (call : (Except Exn D)) : Option (Except Exn (List D)) := xk call (fun x263 => some (.error x263)) (fun v263 => some (.ok ([(D.str ("told" : Str)), v263] : (List D))))
def l_heard_m (call : (Except Exn D)) : Option (List D) := (l_heard_T1 call).bind fun p266 => xk p266 (fun x267 => if decide (x267.cls = "Unfit") = true then ((gd (x267.fld.isNone)).bind fun p268 => some ([(D.str ("unfit" : Str)), (D.bl true), (D.bl false)] : (List D))) else (if decide (x267.cls = "TooMany") = true then ((fldOf "limit" x267).bind fun p270 => some ([(D.str ("many" : Str)), p270, (D.bl true)] : (List D))) else (none))) (fun v267 => some v267)
theorem l_heard_ok {P : Program} {w : World} {K : PySem.W.Frag} {mg : Str → Option Value} {base : Heap} {f : Addr} {fd : FuncData} (F : FnP K "_law_heard" s_l_heard f fd) {c_BadHouse : Addr} {c_BadRun : Addr} {c_TooMany : Addr} {c_Unfit : Addr} {c_WayError : Addr} (x_Unfit : ExcF K mg "Unfit" c_Unfit) (e_TooMany_TooMany : PySem.W.exmOne K (.ref c_TooMany) (.ref c_TooMany) = some true) (e_Unfit_Unfit : PySem.W.exmOne K (.ref c_Unfit) (.ref c_Unfit) = some true) (n_TooMany_Unfit : PySem.W.exmOne K (.ref c_TooMany) (.ref c_Unfit) = some false) (m_BadHouse : mg "BadHouse" = some (.ref c_BadHouse)) (m_BadRun : mg "BadRun" = some (.ref c_BadRun)) (m_TooMany : mg "TooMany" = some (.ref c_TooMany)) (m_WayError : mg "WayError" = some (.ref c_WayError)) (i_TooMany : ExcC K c_TooMany) (i_Unfit : ExcC K c_Unfit) (f_Unfit_BadHouse : PySem.W.kitOne K (.ref c_Unfit) (.ref c_BadHouse) = some false) (f_Unfit_BadRun : PySem.W.kitOne K (.ref c_Unfit) (.ref c_BadRun) = some false) (f_Unfit_TooMany : PySem.W.kitOne K (.ref c_Unfit) (.ref c_TooMany) = some false) (k_TooMany_WayError : PySem.W.kitOne K (.ref c_TooMany) (.ref c_WayError) = some true) (k_Unfit_WayError : PySem.W.kitOne K (.ref c_Unfit) (.ref c_WayError) = some true) (u_TooMany : SupF P K mg "TooMany" "limit" c_TooMany ini_TooMany) (g_isinstance : mg "isinstance" = none) {k : Nat} (call : Except Exn D) (out : (List D)) (h : l_heard_m call = some out) : HeardP P w K mg base k f fd "call" call (.im (D.lst ((out).map eX))) := by
  refine heard_body F sc_l_heard rfl (.inl rfl) (by decide) (by decide) ?_
  rintro cdv A outer s H E pin hpin hr hG hact
  refine ⟨[none, none], ?_⟩
  unfold l_heard_m at h
  refine sl_in ?_
  obtain ⟨p266, hp266, h_⟩ := bsplit h; replace h := h_; clear h_
  refine sl_exit (s_tryN (p := p266) (g := fun (r : (List D)) => (.im (D.lst ((r).map eX)))) (Γx := [none, none]) sc_l_heard.nd (hb := fun W pn xe tk => ?_) (hr := (RestH.named (i := 1) rfl rfl (names_of x_Unfit) (RestH.named (i := 1) rfl rfl (names_ofS u_TooMany) RestH.nil))) (hok := ?_) (herr := ?_)) rfl
  · have e264 := hp266
    unfold l_heard_T1 at e264
    refine xl_in ?_
    cases call with
    | error x265 =>
      replace e264 := @Option.some.inj _ (Except.error x265) _ e264
      subst e264
      exact xl_raise (xs_wk (Γ1 := [none, none]) (xs_ret (ex_lst (ax_tail ee_str (ax_head (hact _ _ _ tk _ _ _ _))))) trivial)
    | ok v265 =>
      replace e264 := xk_v e264
      replace e264 := Option.some.inj e264
      subst e264
      exact xl_exit (s_ret (Γ1 := [none, none]) (m := (.im (D.lst ((([(D.str ("told" : Str)), v265] : (List D))).map eX)))) (ee_lock (ee_lst (ds := List.map eX ([(D.str ("told" : Str)), v265] : (List D))) (ea_cons ee_str (ea_cons (hact (fun _ _ _ _ => False) pn (fun _ _ => False) takes_none _ _ _ _) ea_nil)) (show 2 ≤ 1000 by decide))) trivial) rfl
  · intro r e
    subst e
    replace h := Option.some.inj (xk_v h)
    subst h
    rfl
  · intro x267 he
    subst he
    replace h := xk_x h
    rcases Bool.eq_false_or_eq_true (decide (x267.cls = "Unfit")) with hk268 | hk268
    · replace h := (if_t hk268).symm.trans h
      obtain ⟨p268, hp268, h_⟩ := bsplit h; replace h := h_; clear h_
      replace h := Option.some.inj h
      subst h
      refine ⟨_, (by rw [of_decide_eq_true hk268]; exact x_Unfit.g), (taken_N (i := 1) rfl (names_of x_Unfit) (Option.isNone_iff_eq_none.mp (gd_t hp268)) e_Unfit_Unfit (bare_cons rfl bare_nil) (freeJ_cons trivial freeJ_nil) (pnJ hpin (by decide)) (by decide) (fun a oe pn hz hf => ?_) (RestH.named (i := 1) rfl rfl (names_ofS u_TooMany) RestH.nil))⟩
      refine sl_in ?_
      exact sl_exit (s_ret (Γ1 := [none, none]) (m := (.im (D.lst ((([(D.str ("unfit" : Str)), (D.bl true), (D.bl false)] : (List D))).map eX)))) (ee_lock (ee_lst (ds := List.map eX ([(D.str ("unfit" : Str)), (D.bl true), (D.bl false)] : (List D))) (ea_cons ee_str (ea_cons (ee_isExn i_Unfit hz hf g_isinstance (pv 1) m_WayError k_Unfit_WayError) (ea_cons (ee_isExn3 i_Unfit hz hf ⟨_, rfl⟩ g_isinstance (pv 1) m_TooMany m_BadRun m_BadHouse f_Unfit_TooMany f_Unfit_BadRun f_Unfit_BadHouse) ea_nil))) (show 3 ≤ 1000 by decide))) trivial) rfl
    · replace h := (if_f hk268).symm.trans h
      rcases Bool.eq_false_or_eq_true (decide (x267.cls = "TooMany")) with hk270 | hk270
      · replace h := (if_t hk270).symm.trans h
        obtain ⟨p270, hp270, h_⟩ := bsplit h; replace h := h_; clear h_
        replace h := Option.some.inj h
        subst h
        refine ⟨_, (by rw [of_decide_eq_true hk270]; exact u_TooMany.g), (taken_next (i := 1) rfl (names_of x_Unfit) n_TooMany_Unfit (taken_F (i := 1) rfl (names_ofS u_TooMany) (fldOf_eq hp270) e_TooMany_TooMany (bare_cons rfl bare_nil) (freeJ_cons trivial freeJ_nil) (pnJ hpin (by decide)) (by decide) (fun a oe pn dd vf H0f iof miof hd0 hr0 hz hf => ?_) RestH.nil))⟩
        refine sl_in ?_
        exact sl_exit (s_ret (Γ1 := [none, none]) (m := (.im (D.lst ((([(D.str ("many" : Str)), p270, (D.bl true)] : (List D))).map eX)))) (ee_lock (ee_lst (ds := List.map eX ([(D.str ("many" : Str)), p270, (D.bl true)] : (List D))) (ea_cons ee_str (ea_cons (ee_xf (f := "limit") (dv := p270) ⟨i_TooMany.hg, i_TooMany.hk, i_TooMany.hs, i_TooMany.hd⟩ u_TooMany.no hz hf ⟨_, rfl⟩ hd0 hr0 (pv 1)) (ea_cons (ee_isExnF (f := "limit") i_TooMany hz hf ⟨_, rfl⟩ hd0 g_isinstance (pv 1) m_WayError k_TooMany_WayError) ea_nil))) (show 3 ≤ 1000 by decide))) trivial) rfl
      · replace h := (if_f hk270).symm.trans h
        cases h
/-! ### law_gated -/
abbrev N_l_gated : List Str := ["house", "hands", "rooms", "ways", "found", "hand", "way"]
theorem sc_l_gated : FnScope N_l_gated ["house", "hands"] (defScope s_l_gated) := ⟨rfl, rfl, rfl, by decide +kernel, rfl, by decide +kernel, by decide +kernel⟩
def l_gated_L1 (hands : (List Int)) (rooms : (List (Option tDoor))) (s : (List tWay)) (x : (Int × tWay)) : Option (List tWay) := (if (decide ((x.1) ∈ hands)) = true then ((gd (decide ((([(("in" : Str), ((rooms).length : Int))] : tWay)).length + ((x.2)).length ≤ sizeLine))).bind fun p275 => (gd (decide (((([(("in" : Str), ((rooms).length : Int))] : tWay) ++ (x.2))).length + (([(("out" : Str), ((rooms).length : Int))] : tWay)).length ≤ sizeLine))).bind fun p276 => some ((([(("in" : Str), ((rooms).length : Int))] : tWay) ++ (x.2)) ++ ([(("out" : Str), ((rooms).length : Int))] : tWay))) else (some (x.2))).bind fun p277 => (gd (decide ((s).length < sizeLine))).bind fun p278 => some (s ++ [p277])
def l_gated_m (house : tHouse) (hands : (List Int)) : Option tHouse := (forS (l_gated_L1 hands (house.1)) ([] : (List tWay)) (numL (house.2))).bind fun p285 => (gd (decide (((house.1)).length + (([none] : (List (Option tDoor)))).length ≤ sizeLine))).bind fun p286 => some (((house.1) ++ ([none] : (List (Option tDoor)))), p285)
abbrev l_gatedR : List M → M → List M → Prop := fun ms r ms' => ∃ (house : tHouse) (hands : (List Int)) (out : tHouse), l_gated_m house hands = some out ∧ ms = [(.im (eHouse house)), (.im (D.tup ((hands).map D.int)))] ∧ r = (.im (eHouse out)) ∧ ms' = []
theorem l_gated_ok {P : Program} {w : World} {K : PySem.W.Frag} {mg : Str → Option Value} {base : Heap} {f : Addr} {fd : FuncData} (F : FnP K "_law_gated" s_l_gated f fd) (g_enumerate : mg "enumerate" = none) (g_len : mg "len" = none) (g_tuple : mg "tuple" = none) : FnG P w K mg base 1 f fd ["house", "hands"] (spR K 2 [] l_gatedR) := by
  refine fn_body (k := 0) F sc_l_gated rfl (by decide) (by decide) (by decide) (by rintro ms r ms' ⟨house, hands, out, _, rfl, _, rfl⟩; exact ⟨rfl, rfl⟩) ?_
  rintro cdv A outer s H E H0 io pin mio hpin hr hG ms r ms' ⟨house, hands, out, h, rfl, rfl, rfl⟩
  refine ⟨[none, none, none, none, none, none, none], ?_, fun k i m h1 h2 => by simp at h1⟩
  unfold l_gated_m at h
  refine sl_in ?_
  refine sl_cons (Γ1 := [some (.im (eHouse house)), some (.im (D.tup ((hands).map D.int))), some (.im (D.tup (((house.1)).map (eO eDoor)))), some (.im (D.tup (((house.2)).map eWay))), none, none, none]) (s_unp (Γ1 := [some (.im (eHouse house)), some (.im (D.tup ((hands).map D.int))), none, none, none, none, none]) (J := [2, 3]) (ee_var 0 (pv 0)) (gt_tup rfl (gts_cons (gt_name 2 sc_l_gated.nd rfl (by first | exact Or.inl rfl | exact Or.inr rfl) (np1 hpin (by decide)) trivial (by decide)) (gts_cons (gt_name 3 sc_l_gated.nd rfl (by first | exact Or.inl rfl | exact Or.inr rfl) (np1 hpin (by decide)) trivial (by decide)) gts_nil)))) ?_
  refine sl_cons (Γ1 := [some (.im (eHouse house)), some (.im (D.tup ((hands).map D.int))), some (.im (D.tup (((house.1)).map (eO eDoor)))), some (.im (D.tup (((house.2)).map eWay))), some (.li ((([] : (List tWay))).map eWay)), none, none]) (s_set (Γ1 := [some (.im (eHouse house)), some (.im (D.tup ((hands).map D.int))), some (.im (D.tup (((house.1)).map (eO eDoor)))), some (.im (D.tup (((house.2)).map eWay))), none, none, none]) (m := (.li ((([] : (List tWay))).map eWay))) 4 sc_l_gated.nd rfl (by first | exact Or.inl rfl | exact Or.inr rfl) (np1 hpin (by decide)) (ee_lst (ds := []) ea_nil (show 0 ≤ 1000 by decide)) trivial) ?_
  obtain ⟨p285, hp285, h_⟩ := bsplit h; replace h := h_; clear h_
  refine sl_cons (Γ1 := [some (.im (eHouse house)), some (.im (D.tup ((hands).map D.int))), some (.im (D.tup (((house.1)).map (eO eDoor)))), some (.im (D.tup (((house.2)).map eWay))), some (.li ((p285).map eWay)), none, none]) (s_for (J := [5, 6]) (enc := (encI eWay)) (xs := (numL (house.2))) (hx := (fun v => .hid (.im (.tup (((house.2)).map eWay))) v)) (cond := (fun _ => True)) (f := (l_gated_L1 hands (house.1))) (s0 := ([] : (List tWay))) (Γs := fun (s272 : (List tWay)) => [some (.im (eHouse house)), some (.im (D.tup ((hands).map D.int))), some (.im (D.tup (((house.1)).map (eO eDoor)))), some (.im (D.tup (((house.2)).map eWay))), some (.li ((s272).map eWay)), none, none]) (Γt := fun (s272 : (List tWay)) (x272 : (Int × tWay)) => [some (.im (eHouse house)), some (.im (D.tup ((hands).map D.int))), some (.im (D.tup (((house.1)).map (eO eDoor)))), some (.im (D.tup (((house.2)).map eWay))), some (.li ((s272).map eWay)), some (.im (D.int (x272.1))), some (.im (D.tup (((x272.2)).map eStep)))]) rfl Fix.hid (it_wk (Γ1 := [some (.im (eHouse house)), some (.im (D.tup ((hands).map D.int))), some (.im (D.tup (((house.1)).map (eO eDoor)))), some (.im (D.tup (((house.2)).map eWay))), some (.li ((([] : (List tWay))).map eWay)), none, none]) (by rw [← enumD_map]; exact it_enumT g_enumerate (ee_var 3 (pv 3))) ⟨rfl, ⟨rfl, ⟨rfl, ⟨rfl, ⟨rfl, trivial⟩⟩⟩⟩⟩) (fun _ => trivial) ?_ ?_ hp285) ?_
  · intro v272 s272 x272
    exact (gt_tup rfl (gts_cons (gt_name 5 sc_l_gated.nd rfl (by first | exact Or.inl rfl | exact Or.inr rfl) (np1 hpin (by decide)) ⟨trivial, trivial⟩ (by decide)) (gts_cons (gt_name 6 sc_l_gated.nd rfl (by first | exact Or.inl rfl | exact Or.inr rfl) (np1 hpin (by decide)) ⟨trivial, trivial⟩ (by decide)) gts_nil)))
  · intro v272 s272 x272 s_272 hf272
    unfold l_gated_L1 at hf272
    refine sl_in ?_
    obtain ⟨p283, hp283, hf272_⟩ := bsplit hf272; replace hf272 := hf272_; clear hf272_
    obtain ⟨p284, hp284, hf272_⟩ := bsplit hf272; replace hf272 := hf272_; clear hf272_
    refine sl_cons (Γ1 := [some (.im (eHouse house)), some (.im (D.tup ((hands).map D.int))), some (.im (D.tup (((house.1)).map (eO eDoor)))), some (.im (D.tup (((house.2)).map eWay))), some (.li (((s272 ++ [p283])).map eWay)), some (.im (D.int (x272.1))), some (.im (D.tup (((x272.2)).map eStep)))]) (s_expr (t := .own (.im D.non)) (ee_appendE (Γ1 := [some (.im (eHouse house)), some (.im (D.tup ((hands).map D.int))), some (.im (D.tup (((house.1)).map (eO eDoor)))), some (.im (D.tup (((house.2)).map eWay))), some (.li ((s272).map eWay)), some (.im (D.int (x272.1))), some (.im (D.tup (((x272.2)).map eStep)))]) (enc := eWay) (x := p283) 4 (pv 4) rfl (ee_if (t := .own (.im (D.tup ((p283).map eStep)))) (Γ' := [some (.im (eHouse house)), some (.im (D.tup ((hands).map D.int))), some (.im (D.tup (((house.1)).map (eO eDoor)))), some (.im (D.tup (((house.2)).map eWay))), some (.li ((s272).map eWay)), some (.im (D.int (x272.1))), some (.im (D.tup (((x272.2)).map eStep)))]) (et_inI (ee_var 5 (pv 5)) (ee_var 1 (pv 1)) .t) (fun hk => by
            have e279 := (if_t hk).symm.trans hp283; obtain ⟨p281, hp281, e279_⟩ := bsplit e279; replace e279 := e279_; clear e279_; obtain ⟨p282, hp282, e279_⟩ := bsplit e279; replace e279 := e279_; clear e279_; replace e279 := Option.some.inj e279; subst e279; exact (ee_catTE (enc := eStep) (xs := (([(("in" : Str), (((house.1)).length : Int))] : tWay) ++ (x272.2))) (ys := ([(("out" : Str), (((house.1)).length : Int))] : tWay)) (ee_catTE (enc := eStep) (xs := ([(("in" : Str), (((house.1)).length : Int))] : tWay)) (ys := (x272.2)) (ee_tup (ds := [(eStep (("in" : Str), (((house.1)).length : Int)))]) (ea_cons (ee_tup (ds := [(D.str ("in" : Str)), (D.int (((house.1)).length : Int))]) (ea_cons ee_str (ea_cons (ee_lenTE (enc := (eO eDoor)) g_len (ee_var 2 (pv 2))) ea_nil)) (show 2 ≤ 1000 by decide)) ea_nil) (show 1 ≤ 1000 by decide)) (ee_var 6 (pv 6)) (gd_d hp281)) (ee_tup (ds := [(eStep (("out" : Str), (((house.1)).length : Int)))]) (ea_cons (ee_tup (ds := [(D.str ("out" : Str)), (D.int (((house.1)).length : Int))]) (ea_cons ee_str (ea_cons (ee_lenTE (enc := (eO eDoor)) g_len (ee_var 2 (pv 2))) ea_nil)) (show 2 ≤ 1000 by decide)) ea_nil) (show 1 ≤ 1000 by decide)) (gd_d hp282))) (fun hk => by
            have e280 := (if_f hk).symm.trans hp283; replace e280 := Option.some.inj e280; subst e280; exact (ee_var 6 (pv 6)))) rfl (gd_d hp284))) ?_
    replace hf272 := Option.some.inj hf272
    subst hf272
    exact sl_end ⟨rfl, ⟨rfl, ⟨rfl, ⟨rfl, ⟨rfl, trivial⟩⟩⟩⟩⟩
  obtain ⟨p286, hp286, h_⟩ := bsplit h; replace h := h_; clear h_
  replace h := Option.some.inj h
  subst h
  exact sl_exit (s_ret (Γ1 := [some (.im (eHouse house)), some (.im (D.tup ((hands).map D.int))), some (.im (D.tup (((house.1)).map (eO eDoor)))), some (.im (D.tup (((house.2)).map eWay))), some (.li ((p285).map eWay)), none, none]) (m := (.im (eHouse (((house.1) ++ ([none] : (List (Option tDoor)))), p285)))) (ee_tup (ds := [(D.tup ((((house.1) ++ ([none] : (List (Option tDoor))))).map (eO eDoor))), (D.tup ((p285).map eWay))]) (ea_cons (ee_catTE (enc := (eO eDoor)) (xs := (house.1)) (ys := ([none] : (List (Option tDoor)))) (ee_var 2 (pv 2)) (ee_tup (ds := List.map (eO eDoor) ([none] : (List (Option tDoor)))) (ea_cons ee_non ea_nil) (show 1 ≤ 1000 by decide)) (gd_d hp286)) (ea_cons (ee_tupOf (ds := List.map eWay p285) g_tuple (ee_al 4 (pv 4)) (.al rfl)) ea_nil)) (show 2 ≤ 1000 by decide)) trivial) rfl
/-! ### law -/
abbrev N_law : List Str := ["script", "pot", "turn", "hands", "rooms", "house", "sizes", "ways", "row", "some", "same", "due", "told", "hand", "size"]
theorem sc_law : FnScope N_law ["script"] (defScope s_law) := ⟨rfl, rfl, rfl, by decide +kernel, rfl, by decide +kernel, by decide +kernel⟩
def law_L1  (s : Pot) (x : Int) : Option (Out Pot Bool) := (drawQ_m s 5).bind fun p289 => (pickQ_m (p289.2) ([1, 2, 3, 4, 5, 5, 6] : (List Int))).bind fun p290 => (drawQ_m p290.2 4).bind fun p291 => (l_house_m (p291.2) (1 + (p289.1)) p290.1 6 (false, false, (p291.1))).bind fun p292 => (if (decide (1 < x)) = true then ((gd (decide (-(2 ^ 62) ≤ (1 + (p289.1))))).bind fun p296 => (gd (decide ((1 + (p289.1)) < 2 ^ 62))).bind fun p297 => (gd (decide (((rng 0 (1 + (p289.1)))).length ≤ sizeLine))).bind fun p298 => (lcM (fun (t295 : Pot) (c295 : Int) => (pickQ_m t295 ([2, 20, 22, 22, 24] : (List Int))).bind fun p299 => some (p299.2, some p299.1)) (p292.2) (rng 0 (1 + (p289.1)))).bind fun p300 => (gd (decide (((p300.2)).length ≤ sizeLine))).bind fun p302 => (lcM (fun (t301 : Pot) (c301 : Int) => (gd (decide (0 ≤ p290.1))).bind fun p303 => (gd (decide (p290.1 ≤ 1000000))).bind fun p304 => (l_way_m t301 (rng 0 p290.1) c301 false).bind fun p305 => some ((p305.2), some (p305.1))) (p300.1) (p300.2)).bind fun p306 => some ((p306.1), (((p292.1).1), p306.2))) else (some ((p292.2), (p292.1)))).bind fun p307 => (gd (decide (-(2 ^ 62) ≤ (1 + (p289.1))))).bind fun p309 => (gd (decide ((1 + (p289.1)) < 2 ^ 62))).bind fun p310 => (gd (decide (((rng 0 (1 + (p289.1)))).length ≤ sizeLine))).bind fun p311 => (lcM (fun (t308 : Pot) (c308 : Int) => (((drawQ_m t308 2).bind fun p312 => some ((decide ((p312.1) = 0)), (p312.2)))).bind fun tq => if tq.1 = true then (some (tq.2, some c308)) else some (tq.2, none)) (p307.1) (rng 0 (1 + (p289.1)))).bind fun p313 => (gd (decide (0 ≤ (1 + (p289.1))))).bind fun p314 => (gd (decide ((1 + (p289.1)) ≤ 1000000))).bind fun p315 => (pickQ_m (p313.1) ([p313.2, p313.2, p313.2, (rng 0 (1 + (p289.1))), ([] : (List Int))] : (List (List Int)))).bind fun p316 => (shDD ((eF2 eHouse (eTL D.int)) ((p307.2), p316.1))).bind fun p317 => (l_gated_m (p307.2) p316.1).bind fun p318 => (if (decide (p290.1 = 6)) = true then (some true) else ((gd (decide (((p316.1)).length ≤ sizeLine))).bind fun p321 => (lcM (fun (t320 : Unit) (c320 : Int) => (((atI ((p307.2).2) c320).bind fun p322 => some (decide (22 < ((p322).length : Int))))).bind fun tq => if tq = true then (some ((), some c320)) else some ((), none)) () (p316.1)).bind fun p323 => some (!(p323.2).isEmpty))).bind fun p324 => (if p324 = true then (some ([(D.str ("unfit" : Str)), (D.bl true), (D.bl false)] : (List D))) else (some ([(D.str ("told" : Str)), (eHouse p318)] : (List D)))).bind fun p327 => (if (decide (x = 1)) = true then ((gated_m (p307.2) p316.1).bind fun p330 => (l_heard_m (xmd (fun (r : tHouse) => (eHouse r)) p330)).bind fun p331 => some p331) else ((gated_m (p307.2) p316.1).bind fun p333 => (l_heard_m (xmd (fun (r : tHouse) => (eHouse r)) p333)).bind fun p334 => some p334)).bind fun p336 => (shXX (D.lst ((p336).map eX))).bind fun p337 => (shXX (D.lst ((p327).map eX))).bind fun p338 => (if (!(decide (p337 = p338))) = true then (some true) else ((shDD ((eF2 eHouse (eTL D.int)) ((p307.2), p316.1))).bind fun p340 => some (!(decide (p340 = p317))))).bind fun p341 => if p341 = true then (some (.rt false)) else ((if (decide (x = 2)) = true then ((gated_m (p307.2) p316.1).bind fun p344 => (l_heard_m (xmd (fun (r : tHouse) => (eHouse r)) p344)).bind fun p345 => (shXX (D.lst ((p345).map eX))).bind fun p347 => (shXX (D.lst ((p327).map eX))).bind fun p348 => some (!(decide (p347 = p348)))) else (some false)).bind fun p349 => if p349 = true then (some (.rt false)) else (some (.nx p316.2)))
def law_m (script : (List Int)) : Option Bool := (l_pot_m script).bind fun p287 => (forO law_L1 p287 (rng 0 4)).bind fun p413 => p413.k (fun q414 => some true) (fun r => some r)
abbrev lawRT : List M → M → Prop := fun ms r => ∃ (script : (List Int)) (out : Bool), law_m script = some out ∧ ms = [(.im (D.lst ((script).map D.int)))] ∧ r = (.im (D.bl out))
theorem law_ok {P : Program} {w : World} {K : PySem.W.Frag} {mg : Str → Option Value} {base : Heap} {f : Addr} {fd : FuncData} (F : FnP K "law" s_law f fd) {f_gated : Addr} {fd_gated : FuncData} (G_gated : FnG P w K mg base 1 f_gated fd_gated ["house", "hands"] (spR K 2 [] gatedR)) (GX_gated : FnX P w K mg base 1 f_gated fd_gated ["house", "hands"] (spX K mg 2 gatedRX)) (F_gated : FnP K "gated" s_gated f_gated fd_gated) (g_gated : mg "gated" = some (.ref f_gated)) {f_l_pot : Addr} {fd_l_pot : FuncData} (G_l_pot : FnG P w K mg base 1 f_l_pot fd_l_pot ["script"] (spR K 1 [] l_potR)) (F_l_pot : FnP K "_law_pot" s_l_pot f_l_pot fd_l_pot) (g_l_pot : mg "_law_pot" = some (.ref f_l_pot)) {f_l_of : Addr} {fd_l_of : FuncData} (G_l_of : FnG P w K mg base 1 f_l_of fd_l_of ["pot", "many"] (spR K 2 [0] drawQR)) (F_l_of : FnP K "_law_of" s_l_of f_l_of fd_l_of) (g_l_of : mg "_law_of" = some (.ref f_l_of)) {f_l_one : Addr} {fd_l_one : FuncData} (G_l_one : FnG P w K mg base 2 f_l_one fd_l_one ["pot", "items"] (spR K 2 [0] pickQR)) (F_l_one : FnP K "_law_one" s_l_one f_l_one fd_l_one) (g_l_one : mg "_law_one" = some (.ref f_l_one)) {f_l_way : Addr} {fd_l_way : FuncData} (G_l_way : FnG P w K mg base 3 f_l_way fd_l_way ["pot", "rooms", "steps", "is_rising"] (spR K 4 [0] l_wayR)) (F_l_way : FnP K "_law_way" s_l_way f_l_way fd_l_way) (g_l_way : mg "_law_way" = some (.ref f_l_way)) {f_l_house : Addr} {fd_l_house : FuncData} (G_l_house : FnG P w K mg base 4 f_l_house fd_l_house ["pot", "hands", "rooms", "steps", "kinds"] (spR K 5 [0] l_houseR)) (F_l_house : FnP K "_law_house" s_l_house f_l_house fd_l_house) (g_l_house : mg "_law_house" = some (.ref f_l_house)) {f_l_heard : Addr} {fd_l_heard : FuncData} (G_l_heard : ∀ (k : Nat) (call : Except Exn D) (out : (List D)), l_heard_m call = some out → HeardP P w K mg base k f_l_heard fd_l_heard "call" call (.im (D.lst ((out).map eX)))) (F_l_heard : FnP K "_law_heard" s_l_heard f_l_heard fd_l_heard) (g_l_heard : mg "_law_heard" = some (.ref f_l_heard)) {f_l_gated : Addr} {fd_l_gated : FuncData} (G_l_gated : FnG P w K mg base 1 f_l_gated fd_l_gated ["house", "hands"] (spR K 2 [] l_gatedR)) (F_l_gated : FnP K "_law_gated" s_l_gated f_l_gated fd_l_gated) (g_l_gated : mg "_law_gated" = some (.ref f_l_gated)) (hy : sysB K = true) (g_len : mg "len" = none) (g_list : mg "list" = none) (g_range : mg "range" = none) (g_repr : mg "repr" = none) (g_tuple : mg "tuple" = none) {cl T0 : Addr} (hcd : fd.code = .ref cl) (TB : LamX.TabB base mg cl T0) : FnG P w K mg base 5 f fd ["script"] (spT K T0 1 lawRT) := by
  refine fn_bodyT (k := 4) (q := "law" ++ ".<locals>." ++ "<lambda>") F hcd sc_law rfl (by decide) (by rintro ms r ⟨script, out, _, rfl, _⟩; rfl) ?_
  rintro A outer s H E H0 io pin mio hpin hr hG ms r ⟨script, out, h, rfl, rfl⟩
  refine ⟨[none, none, none, none, none, none, none, none, none, none, none, none, none, none, none], ?_⟩
  unfold law_m at h
  refine sl_in ?_
  have kp_gated := F_gated.kp
  have b_gated : Binds K fd_gated ["house", "hands"] [] := F_gated.bindsN fun _ _ _ _ _ _ us hl => match us, hl with | [_, _], _ => rfl
  have k10_gated : KBinds K fd_gated ["house", "hands"] ["hands", "house"] (prm [1, 0]) (prm [1, 0]) := kbinds_of F_gated (fun kV doc pm an cdv ct us ws hl => by
        match us, ws, hl with
        | [], [_, _], _ => rfl
        | [], [], hl => cases hl
        | [], [_], hl => cases hl
        | [], _ :: _ :: _ :: _, hl => rfl
        | _ :: _, _, hl => cases hl) prm_rel
  have kp_l_pot := F_l_pot.kp
  have b_l_pot : Binds K fd_l_pot ["script"] [] := F_l_pot.bindsN fun _ _ _ _ _ _ us hl => match us, hl with | [_], _ => rfl
  have kp_l_of := F_l_of.kp
  have b_l_of : Binds K fd_l_of ["pot", "many"] [] := F_l_of.bindsN fun _ _ _ _ _ _ us hl => match us, hl with | [_, _], _ => rfl
  have kp_l_one := F_l_one.kp
  have b_l_one : Binds K fd_l_one ["pot", "items"] [] := F_l_one.bindsN fun _ _ _ _ _ _ us hl => match us, hl with | [_, _], _ => rfl
  have kp_l_way := F_l_way.kp
  have b_l_way : Binds K fd_l_way ["pot", "rooms", "steps", "is_rising"] [] := F_l_way.bindsN fun _ _ _ _ _ _ us hl => match us, hl with | [_, _, _, _], _ => rfl
  have kp_l_house := F_l_house.kp
  have b_l_house : Binds K fd_l_house ["pot", "hands", "rooms", "steps", "kinds"] [] := F_l_house.bindsN fun _ _ _ _ _ _ us hl => match us, hl with | [_, _, _, _, _], _ => rfl
  have kp_l_heard := F_l_heard.kp
  have b_l_heard : Binds K fd_l_heard ["call"] [] := F_l_heard.bindsN fun _ _ _ _ _ _ us hl => match us, hl with | [_], _ => rfl
  have kp_l_gated := F_l_gated.kp
  have b_l_gated : Binds K fd_l_gated ["house", "hands"] [] := F_l_gated.bindsN fun _ _ _ _ _ _ us hl => match us, hl with | [_, _], _ => rfl
  obtain ⟨p287, hp287, h_⟩ := bsplit h; replace h := h_; clear h_
  refine sl_cons (Γ1 := [some (.im (D.lst ((script).map D.int))), some (Pot.m2 p287), none, none, none, none, none, none, none, none, none, none, none, none, none]) (s_set (Γ1 := [some (.im (D.lst ((script).map D.int))), none, none, none, none, none, none, none, none, none, none, none, none, none, none]) (m := (Pot.m2 p287)) 1 sc_law.nd rfl (by first | exact Or.inl rfl | exact Or.inr rfl) (np1 hpin (by decide)) (ee_callX (k := 4) (G_l_pot.mono (by decide)) hr hG g_l_pot kp_l_pot b_l_pot (ea_cons (ee_var 0 (pv 0)) ea_nil) ⟨script, p287, hp287, rfl, rfl, rfl⟩) ⟨trivial, trivial⟩) ?_
  obtain ⟨p413, hp413, h_⟩ := bsplit h; replace h := h_; clear h_
  cases p413 with
  | bk z =>
    exact (outk_bk h).elim
  | ct z =>
    exact (outk_ct h).elim
  | rt z =>
    replace h := outk_rt h
    replace h := Option.some.inj h
    subst h
    refine sl_exit (o := .rt _ _) (s_forO (R := Bool) (ρ := (fun (r : Bool) => ([none, none, none, none, none, none, none, none, none, none, none, none, none, none, none], (.im (D.bl r))))) (J := [2]) (enc := D.int) (xs := (rng 0 4)) (hx := (fun v => .hid (.im .non) v)) (cond := (fun _ => True)) (f := law_L1) (s0 := p287) (Γs := fun (s288 : Pot) => [some (.im (D.lst ((script).map D.int))), some (Pot.m2 s288), none, none, none, none, none, none, none, none, none, none, none, none, none]) (Γt := fun (s288 : Pot) (x288 : Int) => [some (.im (D.lst ((script).map D.int))), some (Pot.m2 s288), some (.im (D.int x288)), none, none, none, none, none, none, none, none, none, none, none, none]) rfl Fix.hid (it_wk (Γ1 := [some (.im (D.lst ((script).map D.int))), some (Pot.m2 p287), none, none, none, none, none, none, none, none, none, none, none, none, none]) (it_rng1 g_range ee_int (by decide) (by decide)) ⟨rfl, ⟨rfl, trivial⟩⟩) (fun _ => trivial) ?_ ?_ hp413) rfl
    · intro v288 s288 x288
      exact (gt_name 2 sc_law.nd rfl (by first | exact Or.inl rfl | exact Or.inr rfl) (np1 hpin (by decide)) ⟨trivial, ⟨trivial, trivial⟩⟩ (by decide))
    · intro v288 s288 x288 o288 hf288
      unfold law_L1 at hf288
      refine sl_in ?_
      obtain ⟨p351, hp351, hf288_⟩ := bsplit hf288; replace hf288 := hf288_; clear hf288_
      obtain ⟨p352, hp352, hf288_⟩ := bsplit hf288; replace hf288 := hf288_; clear hf288_
      refine sl_cons (Γ1 := [some (.im (D.lst ((script).map D.int))), some (Pot.m2 p352.2), some (.im (D.int x288)), some (.im (D.int (1 + (p351.1)))), some (.im (D.int p352.1)), none, none, none, none, none, none, none, none, none, none]) (s_unp2 (Γ1 := [some (.im (D.lst ((script).map D.int))), some (Pot.m2 p352.2), some (.im (D.int x288)), none, none, none, none, none, none, none, none, none, none, none, none]) (m1 := (.im (D.int (1 + (p351.1))))) (m2 := (.im (D.int p352.1))) 3 4 rfl sc_law.nd rfl rfl (by decide) (by first | exact Or.inl rfl | exact Or.inr rfl) (by first | exact Or.inl rfl | exact Or.inr rfl) (np1 hpin (by decide)) (np1 hpin (by decide)) ⟨trivial, ⟨trivial, trivial⟩⟩ ⟨trivial, ⟨trivial, trivial⟩⟩ (ea_cons (ee_add ee_int (ee_callX (k := 4) (G_l_of.mono (by decide)) hr hG g_l_of kp_l_of b_l_of (ea_cons (ee_tk 1 (pv 1)) (ea_cons ee_int ea_nil)) ⟨s288, 5, p351, hp351, rfl, rfl, rfl⟩)) (ea_cons (ee_callX (k := 4) (G_l_one.mono (by decide)) hr hG g_l_one kp_l_one b_l_one (ea_cons (ee_tk 1 (pv 1)) (ea_cons (ee_lock (ee_lst (ds := List.map D.int ([1, 2, 3, 4, 5, 5, 6] : (List Int))) (ea_cons ee_int (ea_cons ee_int (ea_cons ee_int (ea_cons ee_int (ea_cons ee_int (ea_cons ee_int (ea_cons ee_int ea_nil))))))) (show 7 ≤ 1000 by decide))) ea_nil)) ⟨(p351.2), (([1, 2, 3, 4, 5, 5, 6] : (List Int))).map D.int, ((D.int p352.1), p352.2), pickQ_map D.int hp352, .inl rfl, rfl, rfl⟩) ea_nil))) ?_
      obtain ⟨p353, hp353, hf288_⟩ := bsplit hf288; replace hf288 := hf288_; clear hf288_
      obtain ⟨p354, hp354, hf288_⟩ := bsplit hf288; replace hf288 := hf288_; clear hf288_
      refine sl_cons (Γ1 := [some (.im (D.lst ((script).map D.int))), some (Pot.m2 (p354.2)), some (.im (D.int x288)), some (.im (D.int (1 + (p351.1)))), some (.im (D.int p352.1)), some (.im (eHouse (p354.1))), none, none, none, none, none, none, none, none, none]) (s_set (Γ1 := [some (.im (D.lst ((script).map D.int))), some (Pot.m2 (p354.2)), some (.im (D.int x288)), some (.im (D.int (1 + (p351.1)))), some (.im (D.int p352.1)), none, none, none, none, none, none, none, none, none, none]) (m := (.im (eHouse (p354.1)))) 5 sc_law.nd rfl (by first | exact Or.inl rfl | exact Or.inr rfl) (np1 hpin (by decide)) (ee_callX (k := 4) (G_l_house.mono (by decide)) hr hG g_l_house kp_l_house b_l_house (ea_late (ea_cons (ee_al 1 (pv 1)) (ea_cons (ee_var 3 (pv 3)) (ea_cons (ee_var 4 (pv 4)) (ea_cons ee_int (ea_cons (ee_tup (ds := [(D.bl false), (D.bl false), (D.int (p353.1))]) (ea_cons ee_bl (ea_cons ee_bl (ea_cons (ee_callX (k := 4) (G_l_of.mono (by decide)) hr hG g_l_of kp_l_of b_l_of (ea_cons (ee_tk 1 (pv 1)) (ea_cons ee_int ea_nil)) ⟨p352.2, 4, p353, hp353, rfl, rfl, rfl⟩) ea_nil))) (show 3 ≤ 1000 by decide)) ea_nil)))))) ⟨(p353.2), (1 + (p351.1)), p352.1, 6, (false, false, (p353.1)), p354, hp354, rfl, rfl, rfl⟩) ⟨trivial, ⟨trivial, trivial⟩⟩) ?_
      obtain ⟨p369, hp369, hf288_⟩ := bsplit hf288; replace hf288 := hf288_; clear hf288_
      refine sl_cons (Γ1 := [some (.im (D.lst ((script).map D.int))), some (Pot.m2 (p369.1)), some (.im (D.int x288)), some (.im (D.int (1 + (p351.1)))), some (.im (D.int p352.1)), some (.im (eHouse (p369.2))), none, none, none, none, none, none, none, none, none]) (s_if (et_gt (ee_var 2 (pv 2)) ee_int) (fun hk => ?_) (fun hk => ?_)) ?_
      · refine sl_in ?_
        have e355 := (if_t hk).symm.trans hp369
        obtain ⟨p358, hp358, e355_⟩ := bsplit e355; replace e355 := e355_; clear e355_
        obtain ⟨p359, hp359, e355_⟩ := bsplit e355; replace e355 := e355_; clear e355_
        obtain ⟨p360, hp360, e355_⟩ := bsplit e355; replace e355 := e355_; clear e355_
        obtain ⟨p362, hp362, e355_⟩ := bsplit e355; replace e355 := e355_; clear e355_
        refine sl_cons (Γ1 := [some (.im (D.lst ((script).map D.int))), some (Pot.m2 (p362.1)), some (.im (D.int x288)), some (.im (D.int (1 + (p351.1)))), some (.im (D.int p352.1)), some (.im (eHouse (p354.1))), some (.im (D.lst ((p362.2).map D.int))), none, none, none, none, none, none, none, none]) (s_lock 6 (Γ1 := [some (.im (D.lst ((script).map D.int))), some (Pot.m2 (p362.1)), some (.im (D.int x288)), some (.im (D.int (1 + (p351.1)))), some (.im (D.int p352.1)), some (.im (eHouse (p354.1))), some (.li ((p362.2).map D.int)), none, none, none, none, none, none, none, none]) (s_setLc 6 (s1 := p362.1) (ys := p362.2) (f := (fun (t357 : Pot) (c357 : Int) => (pickQ_m t357 ([2, 20, 22, 22, 24] : (List Int))).bind fun p361 => some (p361.2, some p361.1))) (enc := D.int) (eb := D.int) (xs := (rng 0 (1 + (p351.1)))) (s0 := (p354.2)) (hx := (fun v => .hid (.im .non) v)) (cond := (fun _ => True)) (Γs := fun (t357 : Pot) => [some (.im (D.lst ((script).map D.int))), some (Pot.m2 t357), some (.im (D.int x288)), some (.im (D.int (1 + (p351.1)))), some (.im (D.int p352.1)), some (.im (eHouse (p354.1))), none, none, none, none, none, none, none, none, none]) (Γt := fun (t357 : Pot) (c357 : Int) => [some (.im (D.lst ((script).map D.int))), some (Pot.m2 t357), some (.im (D.int x288)), some (.im (D.int (1 + (p351.1)))), some (.im (D.int p352.1)), some (.im (eHouse (p354.1))), none, none, none, none, none, none, none, some (.im (D.int c357)), none]) (Γu := fun (t357 : Pot) (c357 : Int) => [some (.im (D.lst ((script).map D.int))), some (Pot.m2 t357), some (.im (D.int x288)), some (.im (D.int (1 + (p351.1)))), some (.im (D.int p352.1)), some (.im (eHouse (p354.1))), none, none, none, none, none, none, none, some (.im (D.int c357)), none]) (tb := (fun _ _ => true)) rfl sc_law.nd rfl rfl (np1 hpin (by decide)) ⟨trivial, ⟨trivial, trivial⟩⟩ (blkOk_by (own := [("hand", 13)]) (N := N_law) (sc := defScope s_law) (by decide +kernel))
   { fx := Fix.hid, it := it_wk (Γ1 := [some (.im (D.lst ((script).map D.int))), some (Pot.m2 (p354.2)), some (.im (D.int x288)), some (.im (D.int (1 + (p351.1)))), some (.im (D.int p352.1)), some (.im (eHouse (p354.1))), none, none, none, none, none, none, none, none, none]) (it_rng1 g_range (ee_var 3 (pv 3)) (gd_d hp358) (gd_d hp359)) ⟨rfl, ⟨rfl, ⟨rfl, ⟨rfl, ⟨rfl, ⟨rfl, trivial⟩⟩⟩⟩⟩⟩, cd := fun _ => trivial, gt := fun s H Ca cl fp v q acc t357 c357 => (gt_name 13 sc_law.nd rfl (by first | exact Or.inl rfl | exact Or.inr rfl) (np1 hpin (by decide)) ⟨trivial, ⟨trivial, ⟨trivial, ⟨trivial, trivial⟩⟩⟩⟩ (by decide)), tt := fun s H Ca cl fp v q acc t357 c357 _ => tests0,
        el := fun s H Ca cl fp v q acc t357 c357 st' y hk hf => by
            obtain ⟨p361, hp361, hf_⟩ := bsplit hf; replace hf := hf_; clear hf_; obtain ⟨hf1, hf2⟩ := Prod.mk.inj (Option.some.inj hf); subst hf1; replace hf2 := Option.some.inj hf2; subst hf2; exact ee_wk (Γ1 := [some (.im (D.lst ((script).map D.int))), some (Pot.m2 p361.2), some (.im (D.int x288)), some (.im (D.int (1 + (p351.1)))), some (.im (D.int p352.1)), some (.im (eHouse (p354.1))), none, none, none, none, none, none, none, some (.im (D.int c357)), none]) (ee_callX (k := 4) (G_l_one.mono (by decide)) hr hG g_l_one kp_l_one b_l_one (ea_cons (ee_tk 1 (pv 1)) (ea_cons (ee_lock (ee_lst (ds := List.map D.int ([2, 20, 22, 22, 24] : (List Int))) (ea_cons ee_int (ea_cons ee_int (ea_cons ee_int (ea_cons ee_int (ea_cons ee_int ea_nil))))) (show 5 ≤ 1000 by decide))) ea_nil)) ⟨t357, (([2, 20, 22, 22, 24] : (List Int))).map D.int, ((D.int p361.1), p361.2), pickQ_map D.int hp361, .inl rfl, rfl, rfl⟩) ⟨rfl, ⟨rfl, ⟨rfl, ⟨rfl, ⟨rfl, ⟨rfl, trivial⟩⟩⟩⟩⟩⟩,
        ft := fun t357 c357 r hk hf => by
            obtain ⟨p361, hp361, hf_⟩ := bsplit hf; replace hf := hf_; clear hf_; cases hf; exact ⟨_, rfl⟩,
        ff := fun t357 c357 r hk hf => Bool.noConfusion hk, br := fun _ => (bare_cons rfl bare_nil), fr := (freeJ_cons ⟨trivial, ⟨trivial, trivial⟩⟩ freeJ_nil), fh := fun v => (freeJ_cons ⟨trivial, trivial⟩ freeJ_nil), pn := pnJ hpin (by decide), ln := (gd_d hp360) }
   hp362 (sw_true rfl rfl rfl (by decide +kernel))) rfl) ?_
        obtain ⟨p364, hp364, e355_⟩ := bsplit e355; replace e355 := e355_; clear e355_
        obtain ⟨p368, hp368, e355_⟩ := bsplit e355; replace e355 := e355_; clear e355_
        refine sl_cons (Γ1 := [some (.im (D.lst ((script).map D.int))), some (Pot.m2 (p368.1)), some (.im (D.int x288)), some (.im (D.int (1 + (p351.1)))), some (.im (D.int p352.1)), some (.im (eHouse (p354.1))), some (.im (D.lst ((p362.2).map D.int))), some (.li ((p368.2).map eWay)), none, none, none, none, none, none, none]) (s_setLc 7 (s1 := p368.1) (ys := p368.2) (f := (fun (t363 : Pot) (c363 : Int) => (gd (decide (0 ≤ p352.1))).bind fun p365 => (gd (decide (p352.1 ≤ 1000000))).bind fun p366 => (l_way_m t363 (rng 0 p352.1) c363 false).bind fun p367 => some ((p367.2), some (p367.1)))) (enc := D.int) (eb := eWay) (xs := (p362.2)) (s0 := (p362.1)) (hx := (fun v => .hid (.im (.lst ((p362.2).map D.int))) v)) (cond := (fun _ => True)) (Γs := fun (t363 : Pot) => [some (.im (D.lst ((script).map D.int))), some (Pot.m2 t363), some (.im (D.int x288)), some (.im (D.int (1 + (p351.1)))), some (.im (D.int p352.1)), some (.im (eHouse (p354.1))), some (.im (D.lst ((p362.2).map D.int))), none, none, none, none, none, none, none, none]) (Γt := fun (t363 : Pot) (c363 : Int) => [some (.im (D.lst ((script).map D.int))), some (Pot.m2 t363), some (.im (D.int x288)), some (.im (D.int (1 + (p351.1)))), some (.im (D.int p352.1)), some (.im (eHouse (p354.1))), some (.im (D.lst ((p362.2).map D.int))), none, none, none, none, none, none, none, some (.im (D.int c363))]) (Γu := fun (t363 : Pot) (c363 : Int) => [some (.im (D.lst ((script).map D.int))), some (Pot.m2 t363), some (.im (D.int x288)), some (.im (D.int (1 + (p351.1)))), some (.im (D.int p352.1)), some (.im (eHouse (p354.1))), some (.im (D.lst ((p362.2).map D.int))), none, none, none, none, none, none, none, some (.im (D.int c363))]) (tb := (fun _ _ => true)) rfl sc_law.nd rfl rfl (np1 hpin (by decide)) ⟨trivial, ⟨trivial, trivial⟩⟩ (blkOk_by (own := [("size", 14)]) (N := N_law) (sc := defScope s_law) (by decide +kernel))
   { fx := Fix.hid, it := it_wk (Γ1 := [some (.im (D.lst ((script).map D.int))), some (Pot.m2 (p362.1)), some (.im (D.int x288)), some (.im (D.int (1 + (p351.1)))), some (.im (D.int p352.1)), some (.im (eHouse (p354.1))), some (.im (D.lst ((p362.2).map D.int))), none, none, none, none, none, none, none, none]) (it_lstF (ee_var 6 (pv 6))) ⟨rfl, ⟨rfl, ⟨rfl, ⟨rfl, ⟨rfl, ⟨rfl, ⟨rfl, trivial⟩⟩⟩⟩⟩⟩⟩, cd := fun _ => trivial, gt := fun s H Ca cl fp v q acc t363 c363 => (gt_name 14 sc_law.nd rfl (by first | exact Or.inl rfl | exact Or.inr rfl) (np1 hpin (by decide)) ⟨trivial, ⟨trivial, ⟨trivial, ⟨trivial, trivial⟩⟩⟩⟩ (by decide)), tt := fun s H Ca cl fp v q acc t363 c363 _ => tests0,
        el := fun s H Ca cl fp v q acc t363 c363 st' y hk hf => by
            obtain ⟨p365, hp365, hf_⟩ := bsplit hf; replace hf := hf_; clear hf_; obtain ⟨p366, hp366, hf_⟩ := bsplit hf; replace hf := hf_; clear hf_; obtain ⟨p367, hp367, hf_⟩ := bsplit hf; replace hf := hf_; clear hf_; obtain ⟨hf1, hf2⟩ := Prod.mk.inj (Option.some.inj hf); subst hf1; replace hf2 := Option.some.inj hf2; subst hf2; exact ee_wk (Γ1 := [some (.im (D.lst ((script).map D.int))), some (Pot.m2 (p367.2)), some (.im (D.int x288)), some (.im (D.int (1 + (p351.1)))), some (.im (D.int p352.1)), some (.im (eHouse (p354.1))), some (.im (D.lst ((p362.2).map D.int))), none, none, none, none, none, none, none, some (.im (D.int c363))]) (ee_callX (k := 4) (G_l_way.mono (by decide)) hr hG g_l_way kp_l_way b_l_way (ea_cons (ee_tk 1 (pv 1)) (ea_cons (ee_lock (ee_listRg rfl g_list g_range (ee_var 4 (pv 4)) (gd_d hp365) (gd_d hp366))) (ea_cons (ee_var 14 (pv 14)) (ea_cons ee_bl ea_nil)))) ⟨t363, (rng 0 p352.1), c363, false, p367, hp367, rfl, rfl, rfl⟩) ⟨rfl, ⟨rfl, ⟨rfl, ⟨rfl, ⟨rfl, ⟨rfl, ⟨rfl, trivial⟩⟩⟩⟩⟩⟩⟩,
        ft := fun t363 c363 r hk hf => by
            obtain ⟨p365, hp365, hf_⟩ := bsplit hf; replace hf := hf_; clear hf_; obtain ⟨p366, hp366, hf_⟩ := bsplit hf; replace hf := hf_; clear hf_; obtain ⟨p367, hp367, hf_⟩ := bsplit hf; replace hf := hf_; clear hf_; cases hf; exact ⟨_, rfl⟩,
        ff := fun t363 c363 r hk hf => Bool.noConfusion hk, br := fun _ => (bare_cons rfl bare_nil), fr := (freeJ_cons ⟨trivial, ⟨trivial, trivial⟩⟩ freeJ_nil), fh := fun v => (freeJ_cons ⟨trivial, trivial⟩ freeJ_nil), pn := pnJ hpin (by decide), ln := (gd_d hp364) }
   hp368 (sw_true rfl rfl rfl (by decide +kernel))) ?_
        refine sl_cons (Γ1 := [some (.im (D.lst ((script).map D.int))), some (Pot.m2 (p368.1)), some (.im (D.int x288)), some (.im (D.int (1 + (p351.1)))), some (.im (D.int p352.1)), some (.im (eHouse (((p354.1).1), p368.2))), some (.im (D.lst ((p362.2).map D.int))), some (.li ((p368.2).map eWay)), none, none, none, none, none, none, none]) (s_set (Γ1 := [some (.im (D.lst ((script).map D.int))), some (Pot.m2 (p368.1)), some (.im (D.int x288)), some (.im (D.int (1 + (p351.1)))), some (.im (D.int p352.1)), some (.im (eHouse (p354.1))), some (.im (D.lst ((p362.2).map D.int))), some (.li ((p368.2).map eWay)), none, none, none, none, none, none, none]) (m := (.im (eHouse (((p354.1).1), p368.2)))) 5 sc_law.nd rfl (by first | exact Or.inl rfl | exact Or.inr rfl) (np1 hpin (by decide)) (ee_tup (ds := [(D.tup ((((p354.1).1)).map (eO eDoor))), (D.tup ((p368.2).map eWay))]) (ea_cons (ee_ixT (ee_var 5 (pv 5)) ee_int rfl) (ea_cons (ee_tupOf (ds := List.map eWay p368.2) g_tuple (ee_al 7 (pv 7)) (.al rfl)) ea_nil)) (show 2 ≤ 1000 by decide)) ⟨trivial, ⟨trivial, trivial⟩⟩) ?_
        replace e355 := Option.some.inj e355
        subst e355
        exact sl_end ⟨rfl, ⟨rfl, ⟨rfl, ⟨rfl, ⟨rfl, ⟨rfl, trivial⟩⟩⟩⟩⟩⟩
      · refine sl_in ?_
        have e356 := (if_f hk).symm.trans hp369
        replace e356 := Option.some.inj e356
        subst e356
        exact sl_end ⟨rfl, ⟨rfl, ⟨rfl, ⟨rfl, ⟨rfl, ⟨rfl, trivial⟩⟩⟩⟩⟩⟩
      obtain ⟨p371, hp371, hf288_⟩ := bsplit hf288; replace hf288 := hf288_; clear hf288_
      obtain ⟨p372, hp372, hf288_⟩ := bsplit hf288; replace hf288 := hf288_; clear hf288_
      obtain ⟨p373, hp373, hf288_⟩ := bsplit hf288; replace hf288 := hf288_; clear hf288_
      obtain ⟨p375, hp375, hf288_⟩ := bsplit hf288; replace hf288 := hf288_; clear hf288_
      refine sl_cons (Γ1 := [some (.im (D.lst ((script).map D.int))), some (Pot.m2 (p375.1)), some (.im (D.int x288)), some (.im (D.int (1 + (p351.1)))), some (.im (D.int p352.1)), some (.im (eHouse (p369.2))), none, none, some (.im (D.lst ((p375.2).map D.int))), none, none, none, none, none, none]) (s_lock 8 (Γ1 := [some (.im (D.lst ((script).map D.int))), some (Pot.m2 (p375.1)), some (.im (D.int x288)), some (.im (D.int (1 + (p351.1)))), some (.im (D.int p352.1)), some (.im (eHouse (p369.2))), none, none, some (.li ((p375.2).map D.int)), none, none, none, none, none, none]) (s_setLc 8 (s1 := p375.1) (ys := p375.2) (f := (fun (t370 : Pot) (c370 : Int) => (((drawQ_m t370 2).bind fun p374 => some ((decide ((p374.1) = 0)), (p374.2)))).bind fun tq => if tq.1 = true then (some (tq.2, some c370)) else some (tq.2, none))) (enc := D.int) (eb := D.int) (xs := (rng 0 (1 + (p351.1)))) (s0 := (p369.1)) (hx := (fun v => .hid (.im .non) v)) (cond := (fun _ => True)) (Γs := fun (t370 : Pot) => [some (.im (D.lst ((script).map D.int))), some (Pot.m2 t370), some (.im (D.int x288)), some (.im (D.int (1 + (p351.1)))), some (.im (D.int p352.1)), some (.im (eHouse (p369.2))), none, none, none, none, none, none, none, none, none]) (Γt := fun (t370 : Pot) (c370 : Int) => [some (.im (D.lst ((script).map D.int))), some (Pot.m2 t370), some (.im (D.int x288)), some (.im (D.int (1 + (p351.1)))), some (.im (D.int p352.1)), some (.im (eHouse (p369.2))), none, none, none, none, none, none, none, some (.im (D.int c370)), none]) (Γu := fun (t370 : Pot) (c370 : Int) => [some (.im (D.lst ((script).map D.int))), some (Pot.m2 (st2 t370 ((drawQ_m t370 2).bind fun p374 => some ((decide ((p374.1) = 0)), (p374.2))))), some (.im (D.int x288)), some (.im (D.int (1 + (p351.1)))), some (.im (D.int p352.1)), some (.im (eHouse (p369.2))), none, none, none, none, none, none, none, some (.im (D.int c370)), none]) (tb := (fun t370 c370 => tb2 ((drawQ_m t370 2).bind fun p374 => some ((decide ((p374.1) = 0)), (p374.2))))) rfl sc_law.nd rfl rfl (np1 hpin (by decide)) ⟨trivial, ⟨trivial, trivial⟩⟩ (blkOk_by (own := [("hand", 13)]) (N := N_law) (sc := defScope s_law) (by decide +kernel))
   { fx := Fix.hid, it := it_wk (Γ1 := [some (.im (D.lst ((script).map D.int))), some (Pot.m2 (p369.1)), some (.im (D.int x288)), some (.im (D.int (1 + (p351.1)))), some (.im (D.int p352.1)), some (.im (eHouse (p369.2))), none, none, none, none, none, none, none, none, none]) (it_rng1 g_range (ee_var 3 (pv 3)) (gd_d hp371) (gd_d hp372)) ⟨rfl, ⟨rfl, ⟨rfl, ⟨rfl, ⟨rfl, ⟨rfl, trivial⟩⟩⟩⟩⟩⟩, cd := fun _ => trivial, gt := fun s H Ca cl fp v q acc t370 c370 => (gt_name 13 sc_law.nd rfl (by first | exact Or.inl rfl | exact Or.inr rfl) (np1 hpin (by decide)) ⟨trivial, ⟨trivial, ⟨trivial, ⟨trivial, trivial⟩⟩⟩⟩ (by decide)), tt := fun s H Ca cl fp v q acc t370 c370 ⟨rq, hrq⟩ => by
            obtain ⟨t, ht, hrq⟩ := bsplit hrq; have hz : tb2 ((drawQ_m t370 2).bind fun p374 => some ((decide ((p374.1) = 0)), (p374.2))) = t.1 := tb2_t ht; have hz2 : st2 t370 ((drawQ_m t370 2).bind fun p374 => some ((decide ((p374.1) = 0)), (p374.2))) = t.2 := st2_t ht; obtain ⟨p374, hp374, ht_⟩ := bsplit ht; replace ht := ht_; clear ht_; replace ht := Option.some.inj ht; subst ht; rw [hz, hz2]; exact (tests1 (et_eqI (ee_callX (k := 4) (G_l_of.mono (by decide)) hr hG g_l_of kp_l_of b_l_of (ea_cons (ee_tk 1 (pv 1)) (ea_cons ee_int ea_nil)) ⟨t370, 2, p374, hp374, rfl, rfl, rfl⟩) ee_int)),
        el := fun s H Ca cl fp v q acc t370 c370 st' y hk hf => by
            obtain ⟨tq, ht, hf_⟩ := bsplit hf; replace hf := hf_; clear hf_; have hk : tq.1 = true := (tb2_t ht).symm.trans hk; have hz2 : st2 t370 ((drawQ_m t370 2).bind fun p374 => some ((decide ((p374.1) = 0)), (p374.2))) = tq.2 := st2_t ht; replace hf := (if_t hk).symm.trans hf; obtain ⟨hf1, hf2⟩ := Prod.mk.inj (Option.some.inj hf); subst hf1; replace hf2 := Option.some.inj hf2; subst hf2; rw [hz2]; exact ee_wk (Γ1 := [some (.im (D.lst ((script).map D.int))), some (Pot.m2 tq.2), some (.im (D.int x288)), some (.im (D.int (1 + (p351.1)))), some (.im (D.int p352.1)), some (.im (eHouse (p369.2))), none, none, none, none, none, none, none, some (.im (D.int c370)), none]) (ee_var 13 (pv 13)) ⟨rfl, ⟨rfl, ⟨rfl, ⟨rfl, ⟨rfl, ⟨rfl, trivial⟩⟩⟩⟩⟩⟩,
        ft := fun t370 c370 r hk hf => by
            obtain ⟨tq, ht, hf_⟩ := bsplit hf; replace hf := hf_; clear hf_; have hk : tq.1 = true := (tb2_t ht).symm.trans hk; have hz2 : st2 t370 ((drawQ_m t370 2).bind fun p374 => some ((decide ((p374.1) = 0)), (p374.2))) = tq.2 := st2_t ht; replace hf := (if_t hk).symm.trans hf; cases hf; exact ⟨_, rfl⟩,
        ff := fun t370 c370 r hk hf => by obtain ⟨tq, ht, hf_⟩ := bsplit hf; replace hf := hf_; clear hf_; have hk : tq.1 = false := (tb2_t ht).symm.trans hk; have hz2 : st2 t370 ((drawQ_m t370 2).bind fun p374 => some ((decide ((p374.1) = 0)), (p374.2))) = tq.2 := st2_t ht; replace hf := (if_f hk).symm.trans hf; cases hf; exact ⟨rfl, by rw [hz2]; exact ⟨rfl, ⟨rfl, ⟨rfl, ⟨rfl, ⟨rfl, ⟨rfl, trivial⟩⟩⟩⟩⟩⟩⟩, br := fun _ => (bare_cons rfl bare_nil), fr := (freeJ_cons ⟨trivial, ⟨trivial, trivial⟩⟩ freeJ_nil), fh := fun v => (freeJ_cons ⟨trivial, trivial⟩ freeJ_nil), pn := pnJ hpin (by decide), ln := (gd_d hp373) }
   hp375 (sw_true rfl rfl rfl (by decide +kernel))) rfl) ?_
      obtain ⟨p376, hp376, hf288_⟩ := bsplit hf288; replace hf288 := hf288_; clear hf288_
      obtain ⟨p377, hp377, hf288_⟩ := bsplit hf288; replace hf288 := hf288_; clear hf288_
      obtain ⟨p378, hp378, hf288_⟩ := bsplit hf288; replace hf288 := hf288_; clear hf288_
      refine sl_cons (Γ1 := [some (.im (D.lst ((script).map D.int))), some (Pot.m2 p378.2), some (.im (D.int x288)), some (.im (D.int (1 + (p351.1)))), some (.im (D.int p352.1)), some (.im (eHouse (p369.2))), none, none, some (.im (D.lst ((p375.2).map D.int))), some (.im (D.tup ((p378.1).map D.int))), none, none, none, none, none]) (s_set (Γ1 := [some (.im (D.lst ((script).map D.int))), some (Pot.m2 p378.2), some (.im (D.int x288)), some (.im (D.int (1 + (p351.1)))), some (.im (D.int p352.1)), some (.im (eHouse (p369.2))), none, none, some (.im (D.lst ((p375.2).map D.int))), none, none, none, none, none, none]) (m := (.im (D.tup ((p378.1).map D.int)))) 9 sc_law.nd rfl (by first | exact Or.inl rfl | exact Or.inr rfl) (np1 hpin (by decide)) (ee_tupOf (ds := List.map D.int p378.1) g_tuple (ee_callX (k := 4) (G_l_one.mono (by decide)) hr hG g_l_one kp_l_one b_l_one (ea_cons (ee_tk 1 (pv 1)) (ea_cons (ee_lock (ee_lst (ds := List.map (eFL D.int) ([p375.2, p375.2, p375.2, (rng 0 (1 + (p351.1))), ([] : (List Int))] : (List (List Int)))) (ea_cons (ee_var 8 (pv 8)) (ea_cons (ee_var 8 (pv 8)) (ea_cons (ee_var 8 (pv 8)) (ea_cons (ee_lock (ee_listRg rfl g_list g_range (ee_var 3 (pv 3)) (gd_d hp376) (gd_d hp377))) (ea_cons (ee_lock (ee_lst (ds := []) ea_nil (show 0 ≤ 1000 by decide))) ea_nil))))) (show 5 ≤ 1000 by decide))) ea_nil)) ⟨(p375.1), (([p375.2, p375.2, p375.2, (rng 0 (1 + (p351.1))), ([] : (List Int))] : (List (List Int)))).map (eFL D.int), ((D.lst ((p378.1).map D.int)), p378.2), pickQ_map (eFL D.int) hp378, .inl rfl, rfl, rfl⟩) .fz) ⟨trivial, ⟨trivial, trivial⟩⟩) ?_
      obtain ⟨p379, hp379, hf288_⟩ := bsplit hf288; replace hf288 := hf288_; clear hf288_
      obtain ⟨p380, hp380, hf288_⟩ := bsplit hf288; replace hf288 := hf288_; clear hf288_
      refine sl_cons (Γ1 := [some (.im (D.lst ((script).map D.int))), some (Pot.m2 p378.2), some (.im (D.int x288)), some (.im (D.int (1 + (p351.1)))), some (.im (D.int p352.1)), some (.im (eHouse (p369.2))), none, none, some (.im (D.lst ((p375.2).map D.int))), some (.im (D.tup ((p378.1).map D.int))), some (.im (D.str p379)), some (.im (D.lst ((([(D.str ("told" : Str)), (eHouse p380)] : (List D))).map eX))), none, none, none]) (s_par2 (Γ1 := [some (.im (D.lst ((script).map D.int))), some (Pot.m2 p378.2), some (.im (D.int x288)), some (.im (D.int (1 + (p351.1)))), some (.im (D.int p352.1)), some (.im (eHouse (p369.2))), none, none, some (.im (D.lst ((p375.2).map D.int))), some (.im (D.tup ((p378.1).map D.int))), none, none, none, none, none]) (m1 := (.im (D.str p379))) (m2 := (.im (D.lst ((([(D.str ("told" : Str)), (eHouse p380)] : (List D))).map eX)))) 10 11 rfl sc_law.nd rfl rfl (by decide) rfl rfl (np1 hpin (by decide)) (np1 hpin (by decide)) ⟨trivial, ⟨trivial, trivial⟩⟩ ⟨trivial, ⟨trivial, trivial⟩⟩ (ea_cons (ee_shDD hG hr.units g_repr (ee_lock (ee_lst (ds := [(eHouse (p369.2)), (D.tup ((p378.1).map D.int))]) (ea_cons (ee_var 5 (pv 5)) (ea_cons (ee_var 9 (pv 9)) ea_nil)) (show 2 ≤ 1000 by decide))) hp379) (ea_cons (ee_lock (ee_lst (ds := List.map eX ([(D.str ("told" : Str)), (eHouse p380)] : (List D))) (ea_cons ee_str (ea_cons (ee_callX (k := 4) (G_l_gated.mono (by decide)) hr hG g_l_gated kp_l_gated b_l_gated (ea_cons (ee_var 5 (pv 5)) (ea_cons (ee_var 9 (pv 9)) ea_nil)) ⟨(p369.2), p378.1, p380, hp380, rfl, rfl, rfl⟩) ea_nil)) (show 2 ≤ 1000 by decide))) ea_nil))) ?_
      obtain ⟨p386, hp386, hf288_⟩ := bsplit hf288; replace hf288 := hf288_; clear hf288_
      obtain ⟨p389, hp389, hf288_⟩ := bsplit hf288; replace hf288 := hf288_; clear hf288_
      refine sl_cons (Γ1 := [some (.im (D.lst ((script).map D.int))), some (Pot.m2 p378.2), some (.im (D.int x288)), some (.im (D.int (1 + (p351.1)))), some (.im (D.int p352.1)), some (.im (eHouse (p369.2))), none, none, some (.im (D.lst ((p375.2).map D.int))), some (.im (D.tup ((p378.1).map D.int))), some (.im (D.str p379)), some (.im (D.lst ((p389).map eX))), none, none, none]) (s_if (ET.ofW (ew_or (Γ' := [some (.im (D.lst ((script).map D.int))), some (Pot.m2 p378.2), some (.im (D.int x288)), some (.im (D.int (1 + (p351.1)))), some (.im (D.int p352.1)), some (.im (eHouse (p369.2))), none, none, some (.im (D.lst ((p375.2).map D.int))), some (.im (D.tup ((p378.1).map D.int))), some (.im (D.str p379)), some (.im (D.lst ((([(D.str ("told" : Str)), (eHouse p380)] : (List D))).map eX))), none, none, none]) (k := p386) (et_eqI (ee_var 4 (pv 4)) ee_int) (fun hk => by
            have e381 := (if_f hk).symm.trans hp386; obtain ⟨p383, hp383, e381_⟩ := bsplit e381; replace e381 := e381_; clear e381_; obtain ⟨p385, hp385, e381_⟩ := bsplit e381; replace e381 := e381_; clear e381_; replace e381 := Option.some.inj e381; subst e381; refine (ew_or1 (et_neNilE (enc := D.int) hr.units ?_ .own (oks_map _ fun _ _ => rfl))); exact (ee_lc/-n-/ (s1 := p385.1) (ys := p385.2) (f := (fun (t382 : Unit) (c382 : Int) => (((atI ((p369.2).2) c382).bind fun p384 => some (decide (22 < ((p384).length : Int))))).bind fun tq => if tq = true then (some ((), some c382)) else some ((), none))) (enc := D.int) (eb := D.int) (xs := (p378.1)) (s0 := ()) (hx := (fun v => .hid (.im (.tup ((p378.1).map D.int))) v)) (cond := (fun _ => True)) (Γs := fun (t382 : Unit) => [some (.im (D.lst ((script).map D.int))), some (Pot.m2 p378.2), some (.im (D.int x288)), some (.im (D.int (1 + (p351.1)))), some (.im (D.int p352.1)), some (.im (eHouse (p369.2))), none, none, some (.im (D.lst ((p375.2).map D.int))), some (.im (D.tup ((p378.1).map D.int))), some (.im (D.str p379)), some (.im (D.lst ((([(D.str ("told" : Str)), (eHouse p380)] : (List D))).map eX))), none, none, none]) (Γt := fun (t382 : Unit) (c382 : Int) => [some (.im (D.lst ((script).map D.int))), some (Pot.m2 p378.2), some (.im (D.int x288)), some (.im (D.int (1 + (p351.1)))), some (.im (D.int p352.1)), some (.im (eHouse (p369.2))), none, none, some (.im (D.lst ((p375.2).map D.int))), some (.im (D.tup ((p378.1).map D.int))), some (.im (D.str p379)), some (.im (D.lst ((([(D.str ("told" : Str)), (eHouse p380)] : (List D))).map eX))), none, some (.im (D.int c382)), none]) (Γu := fun (t382 : Unit) (c382 : Int) => [some (.im (D.lst ((script).map D.int))), some (Pot.m2 p378.2), some (.im (D.int x288)), some (.im (D.int (1 + (p351.1)))), some (.im (D.int p352.1)), some (.im (eHouse (p369.2))), none, none, some (.im (D.lst ((p375.2).map D.int))), some (.im (D.tup ((p378.1).map D.int))), some (.im (D.str p379)), some (.im (D.lst ((([(D.str ("told" : Str)), (eHouse p380)] : (List D))).map eX))), none, some (.im (D.int c382)), none]) (tb := (fun t382 c382 => tbo ((atI ((p369.2).2) c382).bind fun p384 => some (decide (22 < ((p384).length : Int)))))) rfl sc_law.nd (blkOk_by (own := [("hand", 13)]) (N := N_law) (sc := defScope s_law) (by decide +kernel))
   { fx := Fix.hid, it := it_wk (Γ1 := [some (.im (D.lst ((script).map D.int))), some (Pot.m2 p378.2), some (.im (D.int x288)), some (.im (D.int (1 + (p351.1)))), some (.im (D.int p352.1)), some (.im (eHouse (p369.2))), none, none, some (.im (D.lst ((p375.2).map D.int))), some (.im (D.tup ((p378.1).map D.int))), some (.im (D.str p379)), some (.im (D.lst ((([(D.str ("told" : Str)), (eHouse p380)] : (List D))).map eX))), none, none, none]) (it_tup (ee_var 9 (pv 9))) ⟨rfl, ⟨rfl, ⟨rfl, ⟨rfl, ⟨rfl, ⟨rfl, ⟨rfl, ⟨rfl, ⟨rfl, ⟨rfl, trivial⟩⟩⟩⟩⟩⟩⟩⟩⟩⟩, cd := fun _ => trivial, gt := fun s H Ca cl fp v q acc t382 c382 => (gt_name 13 sc_law.nd rfl (by first | exact Or.inl rfl | exact Or.inr rfl) (np1 hpin (by decide)) ⟨trivial, ⟨trivial, ⟨trivial, ⟨trivial, trivial⟩⟩⟩⟩ (by decide)), tt := fun s H Ca cl fp v q acc t382 c382 ⟨rq, hrq⟩ => by
            obtain ⟨t, ht, hrq⟩ := bsplit hrq; have hz : tbo ((atI ((p369.2).2) c382).bind fun p384 => some (decide (22 < ((p384).length : Int)))) = t := tbo_t ht; obtain ⟨p384, hp384, ht_⟩ := bsplit ht; replace ht := ht_; clear ht_; replace ht := Option.some.inj ht; subst ht; rw [hz]; exact (tests1 (et_gt (ee_lenTE (enc := eStep) g_len (ee_ixTE (enc := eWay) (ee_ixT (ee_var 5 (pv 5)) ee_int rfl) (ee_var 13 (pv 13)) hp384)) ee_int)),
        el := fun s H Ca cl fp v q acc t382 c382 st' y hk hf => by
            obtain ⟨tq, ht, hf_⟩ := bsplit hf; replace hf := hf_; clear hf_; have hk : tq = true := (tbo_t ht).symm.trans hk; replace hf := (if_t hk).symm.trans hf; obtain ⟨hf1, hf2⟩ := Prod.mk.inj (Option.some.inj hf); subst hf1; replace hf2 := Option.some.inj hf2; subst hf2; exact ee_wk (Γ1 := [some (.im (D.lst ((script).map D.int))), some (Pot.m2 p378.2), some (.im (D.int x288)), some (.im (D.int (1 + (p351.1)))), some (.im (D.int p352.1)), some (.im (eHouse (p369.2))), none, none, some (.im (D.lst ((p375.2).map D.int))), some (.im (D.tup ((p378.1).map D.int))), some (.im (D.str p379)), some (.im (D.lst ((([(D.str ("told" : Str)), (eHouse p380)] : (List D))).map eX))), none, some (.im (D.int c382)), none]) (ee_var 13 (pv 13)) ⟨rfl, ⟨rfl, ⟨rfl, ⟨rfl, ⟨rfl, ⟨rfl, ⟨rfl, ⟨rfl, ⟨rfl, ⟨rfl, trivial⟩⟩⟩⟩⟩⟩⟩⟩⟩⟩,
        ft := fun t382 c382 r hk hf => by
            obtain ⟨tq, ht, hf_⟩ := bsplit hf; replace hf := hf_; clear hf_; have hk : tq = true := (tbo_t ht).symm.trans hk; replace hf := (if_t hk).symm.trans hf; cases hf; exact ⟨_, rfl⟩,
        ff := fun t382 c382 r hk hf => by obtain ⟨tq, ht, hf_⟩ := bsplit hf; replace hf := hf_; clear hf_; have hk : tq = false := (tbo_t ht).symm.trans hk; replace hf := (if_f hk).symm.trans hf; cases hf; exact ⟨rfl, ⟨rfl, ⟨rfl, ⟨rfl, ⟨rfl, ⟨rfl, ⟨rfl, ⟨rfl, ⟨rfl, ⟨rfl, ⟨rfl, trivial⟩⟩⟩⟩⟩⟩⟩⟩⟩⟩⟩, br := fun _ => (bare_cons rfl bare_nil), fr := (freeJ_cons ⟨trivial, ⟨trivial, trivial⟩⟩ freeJ_nil), fh := fun v => (freeJ_cons ⟨trivial, trivial⟩ freeJ_nil), pn := pnJ hpin (by decide), ln := (gd_d hp383) }
   hp385)) (fun hk => by have hq := (if_t hk).symm.trans hp386; cases hq; exact ⟨rfl, rfl⟩))) (fun hk => ?_) (fun hk => ?_)) ?_
      · refine sl_in ?_
        have e387 := (if_t hk).symm.trans hp389
        refine sl_cons (Γ1 := [some (.im (D.lst ((script).map D.int))), some (Pot.m2 p378.2), some (.im (D.int x288)), some (.im (D.int (1 + (p351.1)))), some (.im (D.int p352.1)), some (.im (eHouse (p369.2))), none, none, some (.im (D.lst ((p375.2).map D.int))), some (.im (D.tup ((p378.1).map D.int))), some (.im (D.str p379)), some (.im (D.lst ((([(D.str ("unfit" : Str)), (D.bl true), (D.bl false)] : (List D))).map eX))), none, none, none]) (s_set (Γ1 := [some (.im (D.lst ((script).map D.int))), some (Pot.m2 p378.2), some (.im (D.int x288)), some (.im (D.int (1 + (p351.1)))), some (.im (D.int p352.1)), some (.im (eHouse (p369.2))), none, none, some (.im (D.lst ((p375.2).map D.int))), some (.im (D.tup ((p378.1).map D.int))), some (.im (D.str p379)), some (.im (D.lst ((([(D.str ("told" : Str)), (eHouse p380)] : (List D))).map eX))), none, none, none]) (m := (.im (D.lst ((([(D.str ("unfit" : Str)), (D.bl true), (D.bl false)] : (List D))).map eX)))) 11 sc_law.nd rfl (by first | exact Or.inl rfl | exact Or.inr rfl) (np1 hpin (by decide)) (ee_lock (ee_lst (ds := List.map eX ([(D.str ("unfit" : Str)), (D.bl true), (D.bl false)] : (List D))) (ea_cons ee_str (ea_cons ee_bl (ea_cons ee_bl ea_nil))) (show 3 ≤ 1000 by decide))) ⟨trivial, ⟨trivial, trivial⟩⟩) ?_
        replace e387 := Option.some.inj e387
        subst e387
        exact sl_end ⟨rfl, ⟨rfl, ⟨rfl, ⟨rfl, ⟨rfl, ⟨rfl, ⟨rfl, ⟨rfl, ⟨rfl, ⟨rfl, trivial⟩⟩⟩⟩⟩⟩⟩⟩⟩⟩
      · refine sl_in ?_
        have e388 := (if_f hk).symm.trans hp389
        replace e388 := Option.some.inj e388
        subst e388
        exact sl_end ⟨rfl, ⟨rfl, ⟨rfl, ⟨rfl, ⟨rfl, ⟨rfl, ⟨rfl, ⟨rfl, ⟨rfl, ⟨rfl, trivial⟩⟩⟩⟩⟩⟩⟩⟩⟩⟩
      obtain ⟨p398, hp398, hf288_⟩ := bsplit hf288; replace hf288 := hf288_; clear hf288_
      refine sl_cons (Γ1 := [some (.im (D.lst ((script).map D.int))), some (Pot.m2 p378.2), some (.im (D.int x288)), some (.im (D.int (1 + (p351.1)))), some (.im (D.int p352.1)), some (.im (eHouse (p369.2))), none, none, some (.im (D.lst ((p375.2).map D.int))), some (.im (D.tup ((p378.1).map D.int))), some (.im (D.str p379)), some (.im (D.lst ((p389).map eX))), some (.im (D.lst ((p398).map eX))), none, none]) (s_if (et_eqI (ee_var 2 (pv 2)) ee_int) (fun hk => ?_) (fun hk => ?_)) ?_
      · refine sl_in ?_
        have e390 := (if_t hk).symm.trans hp398
        obtain ⟨p392, hp392, e390_⟩ := bsplit e390; replace e390 := e390_; clear e390_
        obtain ⟨p393, hp393, e390_⟩ := bsplit e390; replace e390 := e390_; clear e390_
        refine sl_cons (Γ1 := [some (.im (D.lst ((script).map D.int))), some (Pot.m2 p378.2), some (.im (D.int x288)), some (.im (D.int (1 + (p351.1)))), some (.im (D.int p352.1)), some (.im (eHouse (p369.2))), none, none, some (.im (D.lst ((p375.2).map D.int))), some (.im (D.tup ((p378.1).map D.int))), some (.im (D.str p379)), some (.im (D.lst ((p389).map eX))), some (.im (D.lst ((p393).map eX))), none, none]) (s_set (Γ1 := [some (.im (D.lst ((script).map D.int))), some (Pot.m2 p378.2), some (.im (D.int x288)), some (.im (D.int (1 + (p351.1)))), some (.im (D.int p352.1)), some (.im (eHouse (p369.2))), none, none, some (.im (D.lst ((p375.2).map D.int))), some (.im (D.tup ((p378.1).map D.int))), some (.im (D.str p379)), some (.im (D.lst ((p389).map eX))), none, none, none]) (m := (.im (D.lst ((p393).map eX)))) 12 sc_law.nd rfl (by first | exact Or.inl rfl | exact Or.inr rfl) (np1 hpin (by decide)) (ee_heard (k := 2) (Γ' := [some (.im (D.lst ((script).map D.int))), none, some (.im (D.int x288)), some (.im (D.int (1 + (p351.1)))), some (.im (D.int p352.1)), some (.im (eHouse (p369.2))), none, none, some (.im (D.lst ((p375.2).map D.int))), some (.im (D.tup ((p378.1).map D.int))), some (.im (D.str p379)), some (.im (D.lst ((p389).map eX))), none, none, none]) (p := (xmd (fun (r : tHouse) => (eHouse r)) p392)) (G_l_heard _ _ _ hp393) hr hG (by decide) g_l_heard kp_l_heard b_l_heard TB rfl (LamX.lamS_by (show LamX.lamSB (defScope s_law) _ = true by decide +kernel)) (fun A outer s HZ E f c' hr hG tk => match p392, hp392 with | .error x394, hp => (ex_callK0 (ds := [(eHouse (p369.2)), (D.tup ((p378.1).map D.int))]) (ds2 := [(D.tup ((p378.1).map D.int)), (eHouse (p369.2))]) tk (GX_gated.mono (by decide)) hr hG g_gated kp_gated k10_gated (ek_cons (ee_var 9 (pv 9)) (ek_cons (ee_var 5 (pv 5)) ek_nil)) (fun zs H hz => prm_rD (p := [1, 0]) hz) rfl ⟨(p369.2), p378.1, .error x394, hp, rfl, rfl⟩) | .ok v394, hp => (ee_callK0 (k := 2) (ds := [(eHouse (p369.2)), (D.tup ((p378.1).map D.int))]) (ds2 := [(D.tup ((p378.1).map D.int)), (eHouse (p369.2))]) (G_gated.mono (by decide)) hr hG g_gated kp_gated k10_gated (ek_cons (ee_var 9 (pv 9)) (ek_cons (ee_var 5 (pv 5)) ek_nil)) (fun zs H hz => prm_rD (p := [1, 0]) hz) rfl ⟨(p369.2), p378.1, v394, hp, rfl, rfl, rfl⟩))) ⟨trivial, ⟨trivial, trivial⟩⟩) ?_
        replace e390 := Option.some.inj e390
        subst e390
        exact sl_end ⟨rfl, ⟨rfl, ⟨rfl, ⟨rfl, ⟨rfl, ⟨rfl, ⟨rfl, ⟨rfl, ⟨rfl, ⟨rfl, ⟨rfl, trivial⟩⟩⟩⟩⟩⟩⟩⟩⟩⟩⟩
      · refine sl_in ?_
        have e391 := (if_f hk).symm.trans hp398
        obtain ⟨p395, hp395, e391_⟩ := bsplit e391; replace e391 := e391_; clear e391_
        obtain ⟨p396, hp396, e391_⟩ := bsplit e391; replace e391 := e391_; clear e391_
        refine sl_cons (Γ1 := [some (.im (D.lst ((script).map D.int))), some (Pot.m2 p378.2), some (.im (D.int x288)), some (.im (D.int (1 + (p351.1)))), some (.im (D.int p352.1)), some (.im (eHouse (p369.2))), none, none, some (.im (D.lst ((p375.2).map D.int))), some (.im (D.tup ((p378.1).map D.int))), some (.im (D.str p379)), some (.im (D.lst ((p389).map eX))), some (.im (D.lst ((p396).map eX))), none, none]) (s_set (Γ1 := [some (.im (D.lst ((script).map D.int))), some (Pot.m2 p378.2), some (.im (D.int x288)), some (.im (D.int (1 + (p351.1)))), some (.im (D.int p352.1)), some (.im (eHouse (p369.2))), none, none, some (.im (D.lst ((p375.2).map D.int))), some (.im (D.tup ((p378.1).map D.int))), some (.im (D.str p379)), some (.im (D.lst ((p389).map eX))), none, none, none]) (m := (.im (D.lst ((p396).map eX)))) 12 sc_law.nd rfl (by first | exact Or.inl rfl | exact Or.inr rfl) (np1 hpin (by decide)) (ee_heard (k := 2) (Γ' := [some (.im (D.lst ((script).map D.int))), none, some (.im (D.int x288)), some (.im (D.int (1 + (p351.1)))), some (.im (D.int p352.1)), some (.im (eHouse (p369.2))), none, none, some (.im (D.lst ((p375.2).map D.int))), some (.im (D.tup ((p378.1).map D.int))), some (.im (D.str p379)), some (.im (D.lst ((p389).map eX))), none, none, none]) (p := (xmd (fun (r : tHouse) => (eHouse r)) p395)) (G_l_heard _ _ _ hp396) hr hG (by decide) g_l_heard kp_l_heard b_l_heard TB rfl (LamX.lamS_by (show LamX.lamSB (defScope s_law) _ = true by decide +kernel)) (fun A outer s HZ E f c' hr hG tk => match p395, hp395 with | .error x397, hp => (ex_call tk (GX_gated.mono (by decide)) hr hG g_gated kp_gated b_gated (ea_cons (ee_var 5 (pv 5)) (ea_cons (ee_var 9 (pv 9)) ea_nil)) ⟨(p369.2), p378.1, .error x397, hp, rfl, rfl⟩) | .ok v397, hp => (ee_callX (k := 2) (G_gated.mono (by decide)) hr hG g_gated kp_gated b_gated (ea_cons (ee_var 5 (pv 5)) (ea_cons (ee_var 9 (pv 9)) ea_nil)) ⟨(p369.2), p378.1, v397, hp, rfl, rfl, rfl⟩))) ⟨trivial, ⟨trivial, trivial⟩⟩) ?_
        replace e391 := Option.some.inj e391
        subst e391
        exact sl_end ⟨rfl, ⟨rfl, ⟨rfl, ⟨rfl, ⟨rfl, ⟨rfl, ⟨rfl, ⟨rfl, ⟨rfl, ⟨rfl, ⟨rfl, trivial⟩⟩⟩⟩⟩⟩⟩⟩⟩⟩⟩
      obtain ⟨p399, hp399, hf288_⟩ := bsplit hf288; replace hf288 := hf288_; clear hf288_
      obtain ⟨p400, hp400, hf288_⟩ := bsplit hf288; replace hf288 := hf288_; clear hf288_
      obtain ⟨p403, hp403, hf288_⟩ := bsplit hf288; replace hf288 := hf288_; clear hf288_
      rcases Bool.eq_false_or_eq_true (p403) with hk404 | hk404
      · replace hf288 := (if_t hk404).symm.trans hf288
        refine sl_ift (ET.ofW (ew_or (Γ' := [some (.im (D.lst ((script).map D.int))), some (Pot.m2 p378.2), some (.im (D.int x288)), some (.im (D.int (1 + (p351.1)))), some (.im (D.int p352.1)), some (.im (eHouse (p369.2))), none, none, some (.im (D.lst ((p375.2).map D.int))), some (.im (D.tup ((p378.1).map D.int))), some (.im (D.str p379)), some (.im (D.lst ((p389).map eX))), some (.im (D.lst ((p398).map eX))), none, none]) (k := p403) (et_neS (ee_shXX hy hG hr.units g_repr (ee_var 12 (pv 12)) hp399) (ee_shXX hy hG hr.units g_repr (ee_var 11 (pv 11)) hp400)) (fun hk => by
            have e401 := (if_f hk).symm.trans hp403; obtain ⟨p402, hp402, e401_⟩ := bsplit e401; replace e401 := e401_; clear e401_; replace e401 := Option.some.inj e401; subst e401; exact (ew_or1 (et_neS (ee_shDD hG hr.units g_repr (ee_lock (ee_lst (ds := [(eHouse (p369.2)), (D.tup ((p378.1).map D.int))]) (ea_cons (ee_var 5 (pv 5)) (ea_cons (ee_var 9 (pv 9)) ea_nil)) (show 2 ≤ 1000 by decide))) hp402) (ee_var 10 (pv 10))))) (fun hk => by have hq := (if_t hk).symm.trans hp403; cases hq; exact ⟨rfl, rfl⟩))) hk404 ?_
        replace hf288 := Option.some.inj hf288
        subst hf288
        exact sl_exit (s_ret (Γ1 := [some (.im (D.lst ((script).map D.int))), some (Pot.m2 p378.2), some (.im (D.int x288)), some (.im (D.int (1 + (p351.1)))), some (.im (D.int p352.1)), some (.im (eHouse (p369.2))), none, none, some (.im (D.lst ((p375.2).map D.int))), some (.im (D.tup ((p378.1).map D.int))), some (.im (D.str p379)), some (.im (D.lst ((p389).map eX))), some (.im (D.lst ((p398).map eX))), none, none]) (m := (.im (D.bl false))) ee_bl trivial) rfl
      · replace hf288 := (if_f hk404).symm.trans hf288
        refine sl_iff (ET.ofW (ew_or (Γ' := [some (.im (D.lst ((script).map D.int))), some (Pot.m2 p378.2), some (.im (D.int x288)), some (.im (D.int (1 + (p351.1)))), some (.im (D.int p352.1)), some (.im (eHouse (p369.2))), none, none, some (.im (D.lst ((p375.2).map D.int))), some (.im (D.tup ((p378.1).map D.int))), some (.im (D.str p379)), some (.im (D.lst ((p389).map eX))), some (.im (D.lst ((p398).map eX))), none, none]) (k := p403) (et_neS (ee_shXX hy hG hr.units g_repr (ee_var 12 (pv 12)) hp399) (ee_shXX hy hG hr.units g_repr (ee_var 11 (pv 11)) hp400)) (fun hk => by
            have e401 := (if_f hk).symm.trans hp403; obtain ⟨p402, hp402, e401_⟩ := bsplit e401; replace e401 := e401_; clear e401_; replace e401 := Option.some.inj e401; subst e401; exact (ew_or1 (et_neS (ee_shDD hG hr.units g_repr (ee_lock (ee_lst (ds := [(eHouse (p369.2)), (D.tup ((p378.1).map D.int))]) (ea_cons (ee_var 5 (pv 5)) (ea_cons (ee_var 9 (pv 9)) ea_nil)) (show 2 ≤ 1000 by decide))) hp402) (ee_var 10 (pv 10))))) (fun hk => by have hq := (if_t hk).symm.trans hp403; cases hq; exact ⟨rfl, rfl⟩))) hk404 ?_
        refine sl_pop ?_
        obtain ⟨p411, hp411, hf288_⟩ := bsplit hf288; replace hf288 := hf288_; clear hf288_
        rcases Bool.eq_false_or_eq_true (p411) with hk412 | hk412
        · replace hf288 := (if_t hk412).symm.trans hf288
          refine sl_ift (ET.ofW (ew_and (Γ' := [some (.im (D.lst ((script).map D.int))), some (Pot.m2 p378.2), some (.im (D.int x288)), some (.im (D.int (1 + (p351.1)))), some (.im (D.int p352.1)), some (.im (eHouse (p369.2))), none, none, some (.im (D.lst ((p375.2).map D.int))), some (.im (D.tup ((p378.1).map D.int))), some (.im (D.str p379)), some (.im (D.lst ((p389).map eX))), some (.im (D.lst ((p398).map eX))), none, none]) (k := p411) (et_eqI (ee_var 2 (pv 2)) ee_int) (fun hk => by
            have e405 := (if_t hk).symm.trans hp411; obtain ⟨p406, hp406, e405_⟩ := bsplit e405; replace e405 := e405_; clear e405_; obtain ⟨p407, hp407, e405_⟩ := bsplit e405; replace e405 := e405_; clear e405_; obtain ⟨p409, hp409, e405_⟩ := bsplit e405; replace e405 := e405_; clear e405_; obtain ⟨p410, hp410, e405_⟩ := bsplit e405; replace e405 := e405_; clear e405_; replace e405 := Option.some.inj e405; subst e405; exact (ew_and1 (et_neS (ee_shXX hy hG hr.units g_repr (ee_heard (k := 2) (Γ' := [some (.im (D.lst ((script).map D.int))), none, some (.im (D.int x288)), some (.im (D.int (1 + (p351.1)))), some (.im (D.int p352.1)), some (.im (eHouse (p369.2))), none, none, some (.im (D.lst ((p375.2).map D.int))), some (.im (D.tup ((p378.1).map D.int))), some (.im (D.str p379)), some (.im (D.lst ((p389).map eX))), some (.im (D.lst ((p398).map eX))), none, none]) (p := (xmd (fun (r : tHouse) => (eHouse r)) p406)) (G_l_heard _ _ _ hp407) hr hG (by decide) g_l_heard kp_l_heard b_l_heard TB rfl (LamX.lamS_by (show LamX.lamSB (defScope s_law) _ = true by decide +kernel)) (fun A outer s HZ E f c' hr hG tk => match p406, hp406 with | .error x408, hp => (ex_call tk (GX_gated.mono (by decide)) hr hG g_gated kp_gated b_gated (ea_cons (ee_var 5 (pv 5)) (ea_cons (ee_var 9 (pv 9)) ea_nil)) ⟨(p369.2), p378.1, .error x408, hp, rfl, rfl⟩) | .ok v408, hp => (ee_callX (k := 2) (G_gated.mono (by decide)) hr hG g_gated kp_gated b_gated (ea_cons (ee_var 5 (pv 5)) (ea_cons (ee_var 9 (pv 9)) ea_nil)) ⟨(p369.2), p378.1, v408, hp, rfl, rfl, rfl⟩))) hp409) (ee_shXX hy hG hr.units g_repr (ee_var 11 (pv 11)) hp410)))) (fun hk => by have hq := (if_f hk).symm.trans hp411; cases hq; exact ⟨rfl, rfl⟩))) hk412 ?_
          replace hf288 := Option.some.inj hf288
          subst hf288
          exact sl_exit (s_ret (Γ1 := [some (.im (D.lst ((script).map D.int))), some (Pot.m2 p378.2), some (.im (D.int x288)), some (.im (D.int (1 + (p351.1)))), some (.im (D.int p352.1)), some (.im (eHouse (p369.2))), none, none, some (.im (D.lst ((p375.2).map D.int))), some (.im (D.tup ((p378.1).map D.int))), some (.im (D.str p379)), some (.im (D.lst ((p389).map eX))), some (.im (D.lst ((p398).map eX))), none, none]) (m := (.im (D.bl false))) ee_bl trivial) rfl
        · replace hf288 := (if_f hk412).symm.trans hf288
          refine sl_iff (ET.ofW (ew_and (Γ' := [some (.im (D.lst ((script).map D.int))), some (Pot.m2 p378.2), some (.im (D.int x288)), some (.im (D.int (1 + (p351.1)))), some (.im (D.int p352.1)), some (.im (eHouse (p369.2))), none, none, some (.im (D.lst ((p375.2).map D.int))), some (.im (D.tup ((p378.1).map D.int))), some (.im (D.str p379)), some (.im (D.lst ((p389).map eX))), some (.im (D.lst ((p398).map eX))), none, none]) (k := p411) (et_eqI (ee_var 2 (pv 2)) ee_int) (fun hk => by
            have e405 := (if_t hk).symm.trans hp411; obtain ⟨p406, hp406, e405_⟩ := bsplit e405; replace e405 := e405_; clear e405_; obtain ⟨p407, hp407, e405_⟩ := bsplit e405; replace e405 := e405_; clear e405_; obtain ⟨p409, hp409, e405_⟩ := bsplit e405; replace e405 := e405_; clear e405_; obtain ⟨p410, hp410, e405_⟩ := bsplit e405; replace e405 := e405_; clear e405_; replace e405 := Option.some.inj e405; subst e405; exact (ew_and1 (et_neS (ee_shXX hy hG hr.units g_repr (ee_heard (k := 2) (Γ' := [some (.im (D.lst ((script).map D.int))), none, some (.im (D.int x288)), some (.im (D.int (1 + (p351.1)))), some (.im (D.int p352.1)), some (.im (eHouse (p369.2))), none, none, some (.im (D.lst ((p375.2).map D.int))), some (.im (D.tup ((p378.1).map D.int))), some (.im (D.str p379)), some (.im (D.lst ((p389).map eX))), some (.im (D.lst ((p398).map eX))), none, none]) (p := (xmd (fun (r : tHouse) => (eHouse r)) p406)) (G_l_heard _ _ _ hp407) hr hG (by decide) g_l_heard kp_l_heard b_l_heard TB rfl (LamX.lamS_by (show LamX.lamSB (defScope s_law) _ = true by decide +kernel)) (fun A outer s HZ E f c' hr hG tk => match p406, hp406 with | .error x408, hp => (ex_call tk (GX_gated.mono (by decide)) hr hG g_gated kp_gated b_gated (ea_cons (ee_var 5 (pv 5)) (ea_cons (ee_var 9 (pv 9)) ea_nil)) ⟨(p369.2), p378.1, .error x408, hp, rfl, rfl⟩) | .ok v408, hp => (ee_callX (k := 2) (G_gated.mono (by decide)) hr hG g_gated kp_gated b_gated (ea_cons (ee_var 5 (pv 5)) (ea_cons (ee_var 9 (pv 9)) ea_nil)) ⟨(p369.2), p378.1, v408, hp, rfl, rfl, rfl⟩))) hp409) (ee_shXX hy hG hr.units g_repr (ee_var 11 (pv 11)) hp410)))) (fun hk => by have hq := (if_f hk).symm.trans hp411; cases hq; exact ⟨rfl, rfl⟩))) hk412 ?_
          refine sl_pop ?_
          replace hf288 := Option.some.inj hf288
          subst hf288
          exact sl_end ⟨rfl, ⟨rfl, trivial⟩⟩
  | nx q414 =>
    replace h := outk_nx h
    refine sl_cons (Γ1 := [some (.im (D.lst ((script).map D.int))), some (Pot.m2 q414), none, none, none, none, none, none, none, none, none, none, none, none, none]) (s_forO (R := Bool) (ρ := (fun (r : Bool) => ([none, none, none, none, none, none, none, none, none, none, none, none, none, none, none], (.im (D.bl r))))) (J := [2]) (enc := D.int) (xs := (rng 0 4)) (hx := (fun v => .hid (.im .non) v)) (cond := (fun _ => True)) (f := law_L1) (s0 := p287) (Γs := fun (s288 : Pot) => [some (.im (D.lst ((script).map D.int))), some (Pot.m2 s288), none, none, none, none, none, none, none, none, none, none, none, none, none]) (Γt := fun (s288 : Pot) (x288 : Int) => [some (.im (D.lst ((script).map D.int))), some (Pot.m2 s288), some (.im (D.int x288)), none, none, none, none, none, none, none, none, none, none, none, none]) rfl Fix.hid (it_wk (Γ1 := [some (.im (D.lst ((script).map D.int))), some (Pot.m2 p287), none, none, none, none, none, none, none, none, none, none, none, none, none]) (it_rng1 g_range ee_int (by decide) (by decide)) ⟨rfl, ⟨rfl, trivial⟩⟩) (fun _ => trivial) ?_ ?_ hp413) ?_
    · intro v288 s288 x288
      exact (gt_name 2 sc_law.nd rfl (by first | exact Or.inl rfl | exact Or.inr rfl) (np1 hpin (by decide)) ⟨trivial, ⟨trivial, trivial⟩⟩ (by decide))
    · intro v288 s288 x288 o288 hf288
      unfold law_L1 at hf288
      refine sl_in ?_
      obtain ⟨p351, hp351, hf288_⟩ := bsplit hf288; replace hf288 := hf288_; clear hf288_
      obtain ⟨p352, hp352, hf288_⟩ := bsplit hf288; replace hf288 := hf288_; clear hf288_
      refine sl_cons (Γ1 := [some (.im (D.lst ((script).map D.int))), some (Pot.m2 p352.2), some (.im (D.int x288)), some (.im (D.int (1 + (p351.1)))), some (.im (D.int p352.1)), none, none, none, none, none, none, none, none, none, none]) (s_unp2 (Γ1 := [some (.im (D.lst ((script).map D.int))), some (Pot.m2 p352.2), some (.im (D.int x288)), none, none, none, none, none, none, none, none, none, none, none, none]) (m1 := (.im (D.int (1 + (p351.1))))) (m2 := (.im (D.int p352.1))) 3 4 rfl sc_law.nd rfl rfl (by decide) (by first | exact Or.inl rfl | exact Or.inr rfl) (by first | exact Or.inl rfl | exact Or.inr rfl) (np1 hpin (by decide)) (np1 hpin (by decide)) ⟨trivial, ⟨trivial, trivial⟩⟩ ⟨trivial, ⟨trivial, trivial⟩⟩ (ea_cons (ee_add ee_int (ee_callX (k := 4) (G_l_of.mono (by decide)) hr hG g_l_of kp_l_of b_l_of (ea_cons (ee_tk 1 (pv 1)) (ea_cons ee_int ea_nil)) ⟨s288, 5, p351, hp351, rfl, rfl, rfl⟩)) (ea_cons (ee_callX (k := 4) (G_l_one.mono (by decide)) hr hG g_l_one kp_l_one b_l_one (ea_cons (ee_tk 1 (pv 1)) (ea_cons (ee_lock (ee_lst (ds := List.map D.int ([1, 2, 3, 4, 5, 5, 6] : (List Int))) (ea_cons ee_int (ea_cons ee_int (ea_cons ee_int (ea_cons ee_int (ea_cons ee_int (ea_cons ee_int (ea_cons ee_int ea_nil))))))) (show 7 ≤ 1000 by decide))) ea_nil)) ⟨(p351.2), (([1, 2, 3, 4, 5, 5, 6] : (List Int))).map D.int, ((D.int p352.1), p352.2), pickQ_map D.int hp352, .inl rfl, rfl, rfl⟩) ea_nil))) ?_
      obtain ⟨p353, hp353, hf288_⟩ := bsplit hf288; replace hf288 := hf288_; clear hf288_
      obtain ⟨p354, hp354, hf288_⟩ := bsplit hf288; replace hf288 := hf288_; clear hf288_
      refine sl_cons (Γ1 := [some (.im (D.lst ((script).map D.int))), some (Pot.m2 (p354.2)), some (.im (D.int x288)), some (.im (D.int (1 + (p351.1)))), some (.im (D.int p352.1)), some (.im (eHouse (p354.1))), none, none, none, none, none, none, none, none, none]) (s_set (Γ1 := [some (.im (D.lst ((script).map D.int))), some (Pot.m2 (p354.2)), some (.im (D.int x288)), some (.im (D.int (1 + (p351.1)))), some (.im (D.int p352.1)), none, none, none, none, none, none, none, none, none, none]) (m := (.im (eHouse (p354.1)))) 5 sc_law.nd rfl (by first | exact Or.inl rfl | exact Or.inr rfl) (np1 hpin (by decide)) (ee_callX (k := 4) (G_l_house.mono (by decide)) hr hG g_l_house kp_l_house b_l_house (ea_late (ea_cons (ee_al 1 (pv 1)) (ea_cons (ee_var 3 (pv 3)) (ea_cons (ee_var 4 (pv 4)) (ea_cons ee_int (ea_cons (ee_tup (ds := [(D.bl false), (D.bl false), (D.int (p353.1))]) (ea_cons ee_bl (ea_cons ee_bl (ea_cons (ee_callX (k := 4) (G_l_of.mono (by decide)) hr hG g_l_of kp_l_of b_l_of (ea_cons (ee_tk 1 (pv 1)) (ea_cons ee_int ea_nil)) ⟨p352.2, 4, p353, hp353, rfl, rfl, rfl⟩) ea_nil))) (show 3 ≤ 1000 by decide)) ea_nil)))))) ⟨(p353.2), (1 + (p351.1)), p352.1, 6, (false, false, (p353.1)), p354, hp354, rfl, rfl, rfl⟩) ⟨trivial, ⟨trivial, trivial⟩⟩) ?_
      obtain ⟨p369, hp369, hf288_⟩ := bsplit hf288; replace hf288 := hf288_; clear hf288_
      refine sl_cons (Γ1 := [some (.im (D.lst ((script).map D.int))), some (Pot.m2 (p369.1)), some (.im (D.int x288)), some (.im (D.int (1 + (p351.1)))), some (.im (D.int p352.1)), some (.im (eHouse (p369.2))), none, none, none, none, none, none, none, none, none]) (s_if (et_gt (ee_var 2 (pv 2)) ee_int) (fun hk => ?_) (fun hk => ?_)) ?_
      · refine sl_in ?_
        have e355 := (if_t hk).symm.trans hp369
        obtain ⟨p358, hp358, e355_⟩ := bsplit e355; replace e355 := e355_; clear e355_
        obtain ⟨p359, hp359, e355_⟩ := bsplit e355; replace e355 := e355_; clear e355_
        obtain ⟨p360, hp360, e355_⟩ := bsplit e355; replace e355 := e355_; clear e355_
        obtain ⟨p362, hp362, e355_⟩ := bsplit e355; replace e355 := e355_; clear e355_
        refine sl_cons (Γ1 := [some (.im (D.lst ((script).map D.int))), some (Pot.m2 (p362.1)), some (.im (D.int x288)), some (.im (D.int (1 + (p351.1)))), some (.im (D.int p352.1)), some (.im (eHouse (p354.1))), some (.im (D.lst ((p362.2).map D.int))), none, none, none, none, none, none, none, none]) (s_lock 6 (Γ1 := [some (.im (D.lst ((script).map D.int))), some (Pot.m2 (p362.1)), some (.im (D.int x288)), some (.im (D.int (1 + (p351.1)))), some (.im (D.int p352.1)), some (.im (eHouse (p354.1))), some (.li ((p362.2).map D.int)), none, none, none, none, none, none, none, none]) (s_setLc 6 (s1 := p362.1) (ys := p362.2) (f := (fun (t357 : Pot) (c357 : Int) => (pickQ_m t357 ([2, 20, 22, 22, 24] : (List Int))).bind fun p361 => some (p361.2, some p361.1))) (enc := D.int) (eb := D.int) (xs := (rng 0 (1 + (p351.1)))) (s0 := (p354.2)) (hx := (fun v => .hid (.im .non) v)) (cond := (fun _ => True)) (Γs := fun (t357 : Pot) => [some (.im (D.lst ((script).map D.int))), some (Pot.m2 t357), some (.im (D.int x288)), some (.im (D.int (1 + (p351.1)))), some (.im (D.int p352.1)), some (.im (eHouse (p354.1))), none, none, none, none, none, none, none, none, none]) (Γt := fun (t357 : Pot) (c357 : Int) => [some (.im (D.lst ((script).map D.int))), some (Pot.m2 t357), some (.im (D.int x288)), some (.im (D.int (1 + (p351.1)))), some (.im (D.int p352.1)), some (.im (eHouse (p354.1))), none, none, none, none, none, none, none, some (.im (D.int c357)), none]) (Γu := fun (t357 : Pot) (c357 : Int) => [some (.im (D.lst ((script).map D.int))), some (Pot.m2 t357), some (.im (D.int x288)), some (.im (D.int (1 + (p351.1)))), some (.im (D.int p352.1)), some (.im (eHouse (p354.1))), none, none, none, none, none, none, none, some (.im (D.int c357)), none]) (tb := (fun _ _ => true)) rfl sc_law.nd rfl rfl (np1 hpin (by decide)) ⟨trivial, ⟨trivial, trivial⟩⟩ (blkOk_by (own := [("hand", 13)]) (N := N_law) (sc := defScope s_law) (by decide +kernel))
   { fx := Fix.hid, it := it_wk (Γ1 := [some (.im (D.lst ((script).map D.int))), some (Pot.m2 (p354.2)), some (.im (D.int x288)), some (.im (D.int (1 + (p351.1)))), some (.im (D.int p352.1)), some (.im (eHouse (p354.1))), none, none, none, none, none, none, none, none, none]) (it_rng1 g_range (ee_var 3 (pv 3)) (gd_d hp358) (gd_d hp359)) ⟨rfl, ⟨rfl, ⟨rfl, ⟨rfl, ⟨rfl, ⟨rfl, trivial⟩⟩⟩⟩⟩⟩, cd := fun _ => trivial, gt := fun s H Ca cl fp v q acc t357 c357 => (gt_name 13 sc_law.nd rfl (by first | exact Or.inl rfl | exact Or.inr rfl) (np1 hpin (by decide)) ⟨trivial, ⟨trivial, ⟨trivial, ⟨trivial, trivial⟩⟩⟩⟩ (by decide)), tt := fun s H Ca cl fp v q acc t357 c357 _ => tests0,
        el := fun s H Ca cl fp v q acc t357 c357 st' y hk hf => by
            obtain ⟨p361, hp361, hf_⟩ := bsplit hf; replace hf := hf_; clear hf_; obtain ⟨hf1, hf2⟩ := Prod.mk.inj (Option.some.inj hf); subst hf1; replace hf2 := Option.some.inj hf2; subst hf2; exact ee_wk (Γ1 := [some (.im (D.lst ((script).map D.int))), some (Pot.m2 p361.2), some (.im (D.int x288)), some (.im (D.int (1 + (p351.1)))), some (.im (D.int p352.1)), some (.im (eHouse (p354.1))), none, none, none, none, none, none, none, some (.im (D.int c357)), none]) (ee_callX (k := 4) (G_l_one.mono (by decide)) hr hG g_l_one kp_l_one b_l_one (ea_cons (ee_tk 1 (pv 1)) (ea_cons (ee_lock (ee_lst (ds := List.map D.int ([2, 20, 22, 22, 24] : (List Int))) (ea_cons ee_int (ea_cons ee_int (ea_cons ee_int (ea_cons ee_int (ea_cons ee_int ea_nil))))) (show 5 ≤ 1000 by decide))) ea_nil)) ⟨t357, (([2, 20, 22, 22, 24] : (List Int))).map D.int, ((D.int p361.1), p361.2), pickQ_map D.int hp361, .inl rfl, rfl, rfl⟩) ⟨rfl, ⟨rfl, ⟨rfl, ⟨rfl, ⟨rfl, ⟨rfl, trivial⟩⟩⟩⟩⟩⟩,
        ft := fun t357 c357 r hk hf => by
            obtain ⟨p361, hp361, hf_⟩ := bsplit hf; replace hf := hf_; clear hf_; cases hf; exact ⟨_, rfl⟩,
        ff := fun t357 c357 r hk hf => Bool.noConfusion hk, br := fun _ => (bare_cons rfl bare_nil), fr := (freeJ_cons ⟨trivial, ⟨trivial, trivial⟩⟩ freeJ_nil), fh := fun v => (freeJ_cons ⟨trivial, trivial⟩ freeJ_nil), pn := pnJ hpin (by decide), ln := (gd_d hp360) }
   hp362 (sw_true rfl rfl rfl (by decide +kernel))) rfl) ?_
        obtain ⟨p364, hp364, e355_⟩ := bsplit e355; replace e355 := e355_; clear e355_
        obtain ⟨p368, hp368, e355_⟩ := bsplit e355; replace e355 := e355_; clear e355_
        refine sl_cons (Γ1 := [some (.im (D.lst ((script).map D.int))), some (Pot.m2 (p368.1)), some (.im (D.int x288)), some (.im (D.int (1 + (p351.1)))), some (.im (D.int p352.1)), some (.im (eHouse (p354.1))), some (.im (D.lst ((p362.2).map D.int))), some (.li ((p368.2).map eWay)), none, none, none, none, none, none, none]) (s_setLc 7 (s1 := p368.1) (ys := p368.2) (f := (fun (t363 : Pot) (c363 : Int) => (gd (decide (0 ≤ p352.1))).bind fun p365 => (gd (decide (p352.1 ≤ 1000000))).bind fun p366 => (l_way_m t363 (rng 0 p352.1) c363 false).bind fun p367 => some ((p367.2), some (p367.1)))) (enc := D.int) (eb := eWay) (xs := (p362.2)) (s0 := (p362.1)) (hx := (fun v => .hid (.im (.lst ((p362.2).map D.int))) v)) (cond := (fun _ => True)) (Γs := fun (t363 : Pot) => [some (.im (D.lst ((script).map D.int))), some (Pot.m2 t363), some (.im (D.int x288)), some (.im (D.int (1 + (p351.1)))), some (.im (D.int p352.1)), some (.im (eHouse (p354.1))), some (.im (D.lst ((p362.2).map D.int))), none, none, none, none, none, none, none, none]) (Γt := fun (t363 : Pot) (c363 : Int) => [some (.im (D.lst ((script).map D.int))), some (Pot.m2 t363), some (.im (D.int x288)), some (.im (D.int (1 + (p351.1)))), some (.im (D.int p352.1)), some (.im (eHouse (p354.1))), some (.im (D.lst ((p362.2).map D.int))), none, none, none, none, none, none, none, some (.im (D.int c363))]) (Γu := fun (t363 : Pot) (c363 : Int) => [some (.im (D.lst ((script).map D.int))), some (Pot.m2 t363), some (.im (D.int x288)), some (.im (D.int (1 + (p351.1)))), some (.im (D.int p352.1)), some (.im (eHouse (p354.1))), some (.im (D.lst ((p362.2).map D.int))), none, none, none, none, none, none, none, some (.im (D.int c363))]) (tb := (fun _ _ => true)) rfl sc_law.nd rfl rfl (np1 hpin (by decide)) ⟨trivial, ⟨trivial, trivial⟩⟩ (blkOk_by (own := [("size", 14)]) (N := N_law) (sc := defScope s_law) (by decide +kernel))
   { fx := Fix.hid, it := it_wk (Γ1 := [some (.im (D.lst ((script).map D.int))), some (Pot.m2 (p362.1)), some (.im (D.int x288)), some (.im (D.int (1 + (p351.1)))), some (.im (D.int p352.1)), some (.im (eHouse (p354.1))), some (.im (D.lst ((p362.2).map D.int))), none, none, none, none, none, none, none, none]) (it_lstF (ee_var 6 (pv 6))) ⟨rfl, ⟨rfl, ⟨rfl, ⟨rfl, ⟨rfl, ⟨rfl, ⟨rfl, trivial⟩⟩⟩⟩⟩⟩⟩, cd := fun _ => trivial, gt := fun s H Ca cl fp v q acc t363 c363 => (gt_name 14 sc_law.nd rfl (by first | exact Or.inl rfl | exact Or.inr rfl) (np1 hpin (by decide)) ⟨trivial, ⟨trivial, ⟨trivial, ⟨trivial, trivial⟩⟩⟩⟩ (by decide)), tt := fun s H Ca cl fp v q acc t363 c363 _ => tests0,
        el := fun s H Ca cl fp v q acc t363 c363 st' y hk hf => by
            obtain ⟨p365, hp365, hf_⟩ := bsplit hf; replace hf := hf_; clear hf_; obtain ⟨p366, hp366, hf_⟩ := bsplit hf; replace hf := hf_; clear hf_; obtain ⟨p367, hp367, hf_⟩ := bsplit hf; replace hf := hf_; clear hf_; obtain ⟨hf1, hf2⟩ := Prod.mk.inj (Option.some.inj hf); subst hf1; replace hf2 := Option.some.inj hf2; subst hf2; exact ee_wk (Γ1 := [some (.im (D.lst ((script).map D.int))), some (Pot.m2 (p367.2)), some (.im (D.int x288)), some (.im (D.int (1 + (p351.1)))), some (.im (D.int p352.1)), some (.im (eHouse (p354.1))), some (.im (D.lst ((p362.2).map D.int))), none, none, none, none, none, none, none, some (.im (D.int c363))]) (ee_callX (k := 4) (G_l_way.mono (by decide)) hr hG g_l_way kp_l_way b_l_way (ea_cons (ee_tk 1 (pv 1)) (ea_cons (ee_lock (ee_listRg rfl g_list g_range (ee_var 4 (pv 4)) (gd_d hp365) (gd_d hp366))) (ea_cons (ee_var 14 (pv 14)) (ea_cons ee_bl ea_nil)))) ⟨t363, (rng 0 p352.1), c363, false, p367, hp367, rfl, rfl, rfl⟩) ⟨rfl, ⟨rfl, ⟨rfl, ⟨rfl, ⟨rfl, ⟨rfl, ⟨rfl, trivial⟩⟩⟩⟩⟩⟩⟩,
        ft := fun t363 c363 r hk hf => by
            obtain ⟨p365, hp365, hf_⟩ := bsplit hf; replace hf := hf_; clear hf_; obtain ⟨p366, hp366, hf_⟩ := bsplit hf; replace hf := hf_; clear hf_; obtain ⟨p367, hp367, hf_⟩ := bsplit hf; replace hf := hf_; clear hf_; cases hf; exact ⟨_, rfl⟩,
        ff := fun t363 c363 r hk hf => Bool.noConfusion hk, br := fun _ => (bare_cons rfl bare_nil), fr := (freeJ_cons ⟨trivial, ⟨trivial, trivial⟩⟩ freeJ_nil), fh := fun v => (freeJ_cons ⟨trivial, trivial⟩ freeJ_nil), pn := pnJ hpin (by decide), ln := (gd_d hp364) }
   hp368 (sw_true rfl rfl rfl (by decide +kernel))) ?_
        refine sl_cons (Γ1 := [some (.im (D.lst ((script).map D.int))), some (Pot.m2 (p368.1)), some (.im (D.int x288)), some (.im (D.int (1 + (p351.1)))), some (.im (D.int p352.1)), some (.im (eHouse (((p354.1).1), p368.2))), some (.im (D.lst ((p362.2).map D.int))), some (.li ((p368.2).map eWay)), none, none, none, none, none, none, none]) (s_set (Γ1 := [some (.im (D.lst ((script).map D.int))), some (Pot.m2 (p368.1)), some (.im (D.int x288)), some (.im (D.int (1 + (p351.1)))), some (.im (D.int p352.1)), some (.im (eHouse (p354.1))), some (.im (D.lst ((p362.2).map D.int))), some (.li ((p368.2).map eWay)), none, none, none, none, none, none, none]) (m := (.im (eHouse (((p354.1).1), p368.2)))) 5 sc_law.nd rfl (by first | exact Or.inl rfl | exact Or.inr rfl) (np1 hpin (by decide)) (ee_tup (ds := [(D.tup ((((p354.1).1)).map (eO eDoor))), (D.tup ((p368.2).map eWay))]) (ea_cons (ee_ixT (ee_var 5 (pv 5)) ee_int rfl) (ea_cons (ee_tupOf (ds := List.map eWay p368.2) g_tuple (ee_al 7 (pv 7)) (.al rfl)) ea_nil)) (show 2 ≤ 1000 by decide)) ⟨trivial, ⟨trivial, trivial⟩⟩) ?_
        replace e355 := Option.some.inj e355
        subst e355
        exact sl_end ⟨rfl, ⟨rfl, ⟨rfl, ⟨rfl, ⟨rfl, ⟨rfl, trivial⟩⟩⟩⟩⟩⟩
      · refine sl_in ?_
        have e356 := (if_f hk).symm.trans hp369
        replace e356 := Option.some.inj e356
        subst e356
        exact sl_end ⟨rfl, ⟨rfl, ⟨rfl, ⟨rfl, ⟨rfl, ⟨rfl, trivial⟩⟩⟩⟩⟩⟩
      obtain ⟨p371, hp371, hf288_⟩ := bsplit hf288; replace hf288 := hf288_; clear hf288_
      obtain ⟨p372, hp372, hf288_⟩ := bsplit hf288; replace hf288 := hf288_; clear hf288_
      obtain ⟨p373, hp373, hf288_⟩ := bsplit hf288; replace hf288 := hf288_; clear hf288_
      obtain ⟨p375, hp375, hf288_⟩ := bsplit hf288; replace hf288 := hf288_; clear hf288_
      refine sl_cons (Γ1 := [some (.im (D.lst ((script).map D.int))), some (Pot.m2 (p375.1)), some (.im (D.int x288)), some (.im (D.int (1 + (p351.1)))), some (.im (D.int p352.1)), some (.im (eHouse (p369.2))), none, none, some (.im (D.lst ((p375.2).map D.int))), none, none, none, none, none, none]) (s_lock 8 (Γ1 := [some (.im (D.lst ((script).map D.int))), some (Pot.m2 (p375.1)), some (.im (D.int x288)), some (.im (D.int (1 + (p351.1)))), some (.im (D.int p352.1)), some (.im (eHouse (p369.2))), none, none, some (.li ((p375.2).map D.int)), none, none, none, none, none, none]) (s_setLc 8 (s1 := p375.1) (ys := p375.2) (f := (fun (t370 : Pot) (c370 : Int) => (((drawQ_m t370 2).bind fun p374 => some ((decide ((p374.1) = 0)), (p374.2)))).bind fun tq => if tq.1 = true then (some (tq.2, some c370)) else some (tq.2, none))) (enc := D.int) (eb := D.int) (xs := (rng 0 (1 + (p351.1)))) (s0 := (p369.1)) (hx := (fun v => .hid (.im .non) v)) (cond := (fun _ => True)) (Γs := fun (t370 : Pot) => [some (.im (D.lst ((script).map D.int))), some (Pot.m2 t370), some (.im (D.int x288)), some (.im (D.int (1 + (p351.1)))), some (.im (D.int p352.1)), some (.im (eHouse (p369.2))), none, none, none, none, none, none, none, none, none]) (Γt := fun (t370 : Pot) (c370 : Int) => [some (.im (D.lst ((script).map D.int))), some (Pot.m2 t370), some (.im (D.int x288)), some (.im (D.int (1 + (p351.1)))), some (.im (D.int p352.1)), some (.im (eHouse (p369.2))), none, none, none, none, none, none, none, some (.im (D.int c370)), none]) (Γu := fun (t370 : Pot) (c370 : Int) => [some (.im (D.lst ((script).map D.int))), some (Pot.m2 (st2 t370 ((drawQ_m t370 2).bind fun p374 => some ((decide ((p374.1) = 0)), (p374.2))))), some (.im (D.int x288)), some (.im (D.int (1 + (p351.1)))), some (.im (D.int p352.1)), some (.im (eHouse (p369.2))), none, none, none, none, none, none, none, some (.im (D.int c370)), none]) (tb := (fun t370 c370 => tb2 ((drawQ_m t370 2).bind fun p374 => some ((decide ((p374.1) = 0)), (p374.2))))) rfl sc_law.nd rfl rfl (np1 hpin (by decide)) ⟨trivial, ⟨trivial, trivial⟩⟩ (blkOk_by (own := [("hand", 13)]) (N := N_law) (sc := defScope s_law) (by decide +kernel))
   { fx := Fix.hid, it := it_wk (Γ1 := [some (.im (D.lst ((script).map D.int))), some (Pot.m2 (p369.1)), some (.im (D.int x288)), some (.im (D.int (1 + (p351.1)))), some (.im (D.int p352.1)), some (.im (eHouse (p369.2))), none, none, none, none, none, none, none, none, none]) (it_rng1 g_range (ee_var 3 (pv 3)) (gd_d hp371) (gd_d hp372)) ⟨rfl, ⟨rfl, ⟨rfl, ⟨rfl, ⟨rfl, ⟨rfl, trivial⟩⟩⟩⟩⟩⟩, cd := fun _ => trivial, gt := fun s H Ca cl fp v q acc t370 c370 => (gt_name 13 sc_law.nd rfl (by first | exact Or.inl rfl | exact Or.inr rfl) (np1 hpin (by decide)) ⟨trivial, ⟨trivial, ⟨trivial, ⟨trivial, trivial⟩⟩⟩⟩ (by decide)), tt := fun s H Ca cl fp v q acc t370 c370 ⟨rq, hrq⟩ => by
            obtain ⟨t, ht, hrq⟩ := bsplit hrq; have hz : tb2 ((drawQ_m t370 2).bind fun p374 => some ((decide ((p374.1) = 0)), (p374.2))) = t.1 := tb2_t ht; have hz2 : st2 t370 ((drawQ_m t370 2).bind fun p374 => some ((decide ((p374.1) = 0)), (p374.2))) = t.2 := st2_t ht; obtain ⟨p374, hp374, ht_⟩ := bsplit ht; replace ht := ht_; clear ht_; replace ht := Option.some.inj ht; subst ht; rw [hz, hz2]; exact (tests1 (et_eqI (ee_callX (k := 4) (G_l_of.mono (by decide)) hr hG g_l_of kp_l_of b_l_of (ea_cons (ee_tk 1 (pv 1)) (ea_cons ee_int ea_nil)) ⟨t370, 2, p374, hp374, rfl, rfl, rfl⟩) ee_int)),
        el := fun s H Ca cl fp v q acc t370 c370 st' y hk hf => by
            obtain ⟨tq, ht, hf_⟩ := bsplit hf; replace hf := hf_; clear hf_; have hk : tq.1 = true := (tb2_t ht).symm.trans hk; have hz2 : st2 t370 ((drawQ_m t370 2).bind fun p374 => some ((decide ((p374.1) = 0)), (p374.2))) = tq.2 := st2_t ht; replace hf := (if_t hk).symm.trans hf; obtain ⟨hf1, hf2⟩ := Prod.mk.inj (Option.some.inj hf); subst hf1; replace hf2 := Option.some.inj hf2; subst hf2; rw [hz2]; exact ee_wk (Γ1 := [some (.im (D.lst ((script).map D.int))), some (Pot.m2 tq.2), some (.im (D.int x288)), some (.im (D.int (1 + (p351.1)))), some (.im (D.int p352.1)), some (.im (eHouse (p369.2))), none, none, none, none, none, none, none, some (.im (D.int c370)), none]) (ee_var 13 (pv 13)) ⟨rfl, ⟨rfl, ⟨rfl, ⟨rfl, ⟨rfl, ⟨rfl, trivial⟩⟩⟩⟩⟩⟩,
        ft := fun t370 c370 r hk hf => by
            obtain ⟨tq, ht, hf_⟩ := bsplit hf; replace hf := hf_; clear hf_; have hk : tq.1 = true := (tb2_t ht).symm.trans hk; have hz2 : st2 t370 ((drawQ_m t370 2).bind fun p374 => some ((decide ((p374.1) = 0)), (p374.2))) = tq.2 := st2_t ht; replace hf := (if_t hk).symm.trans hf; cases hf; exact ⟨_, rfl⟩,
        ff := fun t370 c370 r hk hf => by obtain ⟨tq, ht, hf_⟩ := bsplit hf; replace hf := hf_; clear hf_; have hk : tq.1 = false := (tb2_t ht).symm.trans hk; have hz2 : st2 t370 ((drawQ_m t370 2).bind fun p374 => some ((decide ((p374.1) = 0)), (p374.2))) = tq.2 := st2_t ht; replace hf := (if_f hk).symm.trans hf; cases hf; exact ⟨rfl, by rw [hz2]; exact ⟨rfl, ⟨rfl, ⟨rfl, ⟨rfl, ⟨rfl, ⟨rfl, trivial⟩⟩⟩⟩⟩⟩⟩, br := fun _ => (bare_cons rfl bare_nil), fr := (freeJ_cons ⟨trivial, ⟨trivial, trivial⟩⟩ freeJ_nil), fh := fun v => (freeJ_cons ⟨trivial, trivial⟩ freeJ_nil), pn := pnJ hpin (by decide), ln := (gd_d hp373) }
   hp375 (sw_true rfl rfl rfl (by decide +kernel))) rfl) ?_
      obtain ⟨p376, hp376, hf288_⟩ := bsplit hf288; replace hf288 := hf288_; clear hf288_
      obtain ⟨p377, hp377, hf288_⟩ := bsplit hf288; replace hf288 := hf288_; clear hf288_
      obtain ⟨p378, hp378, hf288_⟩ := bsplit hf288; replace hf288 := hf288_; clear hf288_
      refine sl_cons (Γ1 := [some (.im (D.lst ((script).map D.int))), some (Pot.m2 p378.2), some (.im (D.int x288)), some (.im (D.int (1 + (p351.1)))), some (.im (D.int p352.1)), some (.im (eHouse (p369.2))), none, none, some (.im (D.lst ((p375.2).map D.int))), some (.im (D.tup ((p378.1).map D.int))), none, none, none, none, none]) (s_set (Γ1 := [some (.im (D.lst ((script).map D.int))), some (Pot.m2 p378.2), some (.im (D.int x288)), some (.im (D.int (1 + (p351.1)))), some (.im (D.int p352.1)), some (.im (eHouse (p369.2))), none, none, some (.im (D.lst ((p375.2).map D.int))), none, none, none, none, none, none]) (m := (.im (D.tup ((p378.1).map D.int)))) 9 sc_law.nd rfl (by first | exact Or.inl rfl | exact Or.inr rfl) (np1 hpin (by decide)) (ee_tupOf (ds := List.map D.int p378.1) g_tuple (ee_callX (k := 4) (G_l_one.mono (by decide)) hr hG g_l_one kp_l_one b_l_one (ea_cons (ee_tk 1 (pv 1)) (ea_cons (ee_lock (ee_lst (ds := List.map (eFL D.int) ([p375.2, p375.2, p375.2, (rng 0 (1 + (p351.1))), ([] : (List Int))] : (List (List Int)))) (ea_cons (ee_var 8 (pv 8)) (ea_cons (ee_var 8 (pv 8)) (ea_cons (ee_var 8 (pv 8)) (ea_cons (ee_lock (ee_listRg rfl g_list g_range (ee_var 3 (pv 3)) (gd_d hp376) (gd_d hp377))) (ea_cons (ee_lock (ee_lst (ds := []) ea_nil (show 0 ≤ 1000 by decide))) ea_nil))))) (show 5 ≤ 1000 by decide))) ea_nil)) ⟨(p375.1), (([p375.2, p375.2, p375.2, (rng 0 (1 + (p351.1))), ([] : (List Int))] : (List (List Int)))).map (eFL D.int), ((D.lst ((p378.1).map D.int)), p378.2), pickQ_map (eFL D.int) hp378, .inl rfl, rfl, rfl⟩) .fz) ⟨trivial, ⟨trivial, trivial⟩⟩) ?_
      obtain ⟨p379, hp379, hf288_⟩ := bsplit hf288; replace hf288 := hf288_; clear hf288_
      obtain ⟨p380, hp380, hf288_⟩ := bsplit hf288; replace hf288 := hf288_; clear hf288_
      refine sl_cons (Γ1 := [some (.im (D.lst ((script).map D.int))), some (Pot.m2 p378.2), some (.im (D.int x288)), some (.im (D.int (1 + (p351.1)))), some (.im (D.int p352.1)), some (.im (eHouse (p369.2))), none, none, some (.im (D.lst ((p375.2).map D.int))), some (.im (D.tup ((p378.1).map D.int))), some (.im (D.str p379)), some (.im (D.lst ((([(D.str ("told" : Str)), (eHouse p380)] : (List D))).map eX))), none, none, none]) (s_par2 (Γ1 := [some (.im (D.lst ((script).map D.int))), some (Pot.m2 p378.2), some (.im (D.int x288)), some (.im (D.int (1 + (p351.1)))), some (.im (D.int p352.1)), some (.im (eHouse (p369.2))), none, none, some (.im (D.lst ((p375.2).map D.int))), some (.im (D.tup ((p378.1).map D.int))), none, none, none, none, none]) (m1 := (.im (D.str p379))) (m2 := (.im (D.lst ((([(D.str ("told" : Str)), (eHouse p380)] : (List D))).map eX)))) 10 11 rfl sc_law.nd rfl rfl (by decide) rfl rfl (np1 hpin (by decide)) (np1 hpin (by decide)) ⟨trivial, ⟨trivial, trivial⟩⟩ ⟨trivial, ⟨trivial, trivial⟩⟩ (ea_cons (ee_shDD hG hr.units g_repr (ee_lock (ee_lst (ds := [(eHouse (p369.2)), (D.tup ((p378.1).map D.int))]) (ea_cons (ee_var 5 (pv 5)) (ea_cons (ee_var 9 (pv 9)) ea_nil)) (show 2 ≤ 1000 by decide))) hp379) (ea_cons (ee_lock (ee_lst (ds := List.map eX ([(D.str ("told" : Str)), (eHouse p380)] : (List D))) (ea_cons ee_str (ea_cons (ee_callX (k := 4) (G_l_gated.mono (by decide)) hr hG g_l_gated kp_l_gated b_l_gated (ea_cons (ee_var 5 (pv 5)) (ea_cons (ee_var 9 (pv 9)) ea_nil)) ⟨(p369.2), p378.1, p380, hp380, rfl, rfl, rfl⟩) ea_nil)) (show 2 ≤ 1000 by decide))) ea_nil))) ?_
      obtain ⟨p386, hp386, hf288_⟩ := bsplit hf288; replace hf288 := hf288_; clear hf288_
      obtain ⟨p389, hp389, hf288_⟩ := bsplit hf288; replace hf288 := hf288_; clear hf288_
      refine sl_cons (Γ1 := [some (.im (D.lst ((script).map D.int))), some (Pot.m2 p378.2), some (.im (D.int x288)), some (.im (D.int (1 + (p351.1)))), some (.im (D.int p352.1)), some (.im (eHouse (p369.2))), none, none, some (.im (D.lst ((p375.2).map D.int))), some (.im (D.tup ((p378.1).map D.int))), some (.im (D.str p379)), some (.im (D.lst ((p389).map eX))), none, none, none]) (s_if (ET.ofW (ew_or (Γ' := [some (.im (D.lst ((script).map D.int))), some (Pot.m2 p378.2), some (.im (D.int x288)), some (.im (D.int (1 + (p351.1)))), some (.im (D.int p352.1)), some (.im (eHouse (p369.2))), none, none, some (.im (D.lst ((p375.2).map D.int))), some (.im (D.tup ((p378.1).map D.int))), some (.im (D.str p379)), some (.im (D.lst ((([(D.str ("told" : Str)), (eHouse p380)] : (List D))).map eX))), none, none, none]) (k := p386) (et_eqI (ee_var 4 (pv 4)) ee_int) (fun hk => by
            have e381 := (if_f hk).symm.trans hp386; obtain ⟨p383, hp383, e381_⟩ := bsplit e381; replace e381 := e381_; clear e381_; obtain ⟨p385, hp385, e381_⟩ := bsplit e381; replace e381 := e381_; clear e381_; replace e381 := Option.some.inj e381; subst e381; refine (ew_or1 (et_neNilE (enc := D.int) hr.units ?_ .own (oks_map _ fun _ _ => rfl))); exact (ee_lc/-n-/ (s1 := p385.1) (ys := p385.2) (f := (fun (t382 : Unit) (c382 : Int) => (((atI ((p369.2).2) c382).bind fun p384 => some (decide (22 < ((p384).length : Int))))).bind fun tq => if tq = true then (some ((), some c382)) else some ((), none))) (enc := D.int) (eb := D.int) (xs := (p378.1)) (s0 := ()) (hx := (fun v => .hid (.im (.tup ((p378.1).map D.int))) v)) (cond := (fun _ => True)) (Γs := fun (t382 : Unit) => [some (.im (D.lst ((script).map D.int))), some (Pot.m2 p378.2), some (.im (D.int x288)), some (.im (D.int (1 + (p351.1)))), some (.im (D.int p352.1)), some (.im (eHouse (p369.2))), none, none, some (.im (D.lst ((p375.2).map D.int))), some (.im (D.tup ((p378.1).map D.int))), some (.im (D.str p379)), some (.im (D.lst ((([(D.str ("told" : Str)), (eHouse p380)] : (List D))).map eX))), none, none, none]) (Γt := fun (t382 : Unit) (c382 : Int) => [some (.im (D.lst ((script).map D.int))), some (Pot.m2 p378.2), some (.im (D.int x288)), some (.im (D.int (1 + (p351.1)))), some (.im (D.int p352.1)), some (.im (eHouse (p369.2))), none, none, some (.im (D.lst ((p375.2).map D.int))), some (.im (D.tup ((p378.1).map D.int))), some (.im (D.str p379)), some (.im (D.lst ((([(D.str ("told" : Str)), (eHouse p380)] : (List D))).map eX))), none, some (.im (D.int c382)), none]) (Γu := fun (t382 : Unit) (c382 : Int) => [some (.im (D.lst ((script).map D.int))), some (Pot.m2 p378.2), some (.im (D.int x288)), some (.im (D.int (1 + (p351.1)))), some (.im (D.int p352.1)), some (.im (eHouse (p369.2))), none, none, some (.im (D.lst ((p375.2).map D.int))), some (.im (D.tup ((p378.1).map D.int))), some (.im (D.str p379)), some (.im (D.lst ((([(D.str ("told" : Str)), (eHouse p380)] : (List D))).map eX))), none, some (.im (D.int c382)), none]) (tb := (fun t382 c382 => tbo ((atI ((p369.2).2) c382).bind fun p384 => some (decide (22 < ((p384).length : Int)))))) rfl sc_law.nd (blkOk_by (own := [("hand", 13)]) (N := N_law) (sc := defScope s_law) (by decide +kernel))
   { fx := Fix.hid, it := it_wk (Γ1 := [some (.im (D.lst ((script).map D.int))), some (Pot.m2 p378.2), some (.im (D.int x288)), some (.im (D.int (1 + (p351.1)))), some (.im (D.int p352.1)), some (.im (eHouse (p369.2))), none, none, some (.im (D.lst ((p375.2).map D.int))), some (.im (D.tup ((p378.1).map D.int))), some (.im (D.str p379)), some (.im (D.lst ((([(D.str ("told" : Str)), (eHouse p380)] : (List D))).map eX))), none, none, none]) (it_tup (ee_var 9 (pv 9))) ⟨rfl, ⟨rfl, ⟨rfl, ⟨rfl, ⟨rfl, ⟨rfl, ⟨rfl, ⟨rfl, ⟨rfl, ⟨rfl, trivial⟩⟩⟩⟩⟩⟩⟩⟩⟩⟩, cd := fun _ => trivial, gt := fun s H Ca cl fp v q acc t382 c382 => (gt_name 13 sc_law.nd rfl (by first | exact Or.inl rfl | exact Or.inr rfl) (np1 hpin (by decide)) ⟨trivial, ⟨trivial, ⟨trivial, ⟨trivial, trivial⟩⟩⟩⟩ (by decide)), tt := fun s H Ca cl fp v q acc t382 c382 ⟨rq, hrq⟩ => by
            obtain ⟨t, ht, hrq⟩ := bsplit hrq; have hz : tbo ((atI ((p369.2).2) c382).bind fun p384 => some (decide (22 < ((p384).length : Int)))) = t := tbo_t ht; obtain ⟨p384, hp384, ht_⟩ := bsplit ht; replace ht := ht_; clear ht_; replace ht := Option.some.inj ht; subst ht; rw [hz]; exact (tests1 (et_gt (ee_lenTE (enc := eStep) g_len (ee_ixTE (enc := eWay) (ee_ixT (ee_var 5 (pv 5)) ee_int rfl) (ee_var 13 (pv 13)) hp384)) ee_int)),
        el := fun s H Ca cl fp v q acc t382 c382 st' y hk hf => by
            obtain ⟨tq, ht, hf_⟩ := bsplit hf; replace hf := hf_; clear hf_; have hk : tq = true := (tbo_t ht).symm.trans hk; replace hf := (if_t hk).symm.trans hf; obtain ⟨hf1, hf2⟩ := Prod.mk.inj (Option.some.inj hf); subst hf1; replace hf2 := Option.some.inj hf2; subst hf2; exact ee_wk (Γ1 := [some (.im (D.lst ((script).map D.int))), some (Pot.m2 p378.2), some (.im (D.int x288)), some (.im (D.int (1 + (p351.1)))), some (.im (D.int p352.1)), some (.im (eHouse (p369.2))), none, none, some (.im (D.lst ((p375.2).map D.int))), some (.im (D.tup ((p378.1).map D.int))), some (.im (D.str p379)), some (.im (D.lst ((([(D.str ("told" : Str)), (eHouse p380)] : (List D))).map eX))), none, some (.im (D.int c382)), none]) (ee_var 13 (pv 13)) ⟨rfl, ⟨rfl, ⟨rfl, ⟨rfl, ⟨rfl, ⟨rfl, ⟨rfl, ⟨rfl, ⟨rfl, ⟨rfl, trivial⟩⟩⟩⟩⟩⟩⟩⟩⟩⟩,
        ft := fun t382 c382 r hk hf => by
            obtain ⟨tq, ht, hf_⟩ := bsplit hf; replace hf := hf_; clear hf_; have hk : tq = true := (tbo_t ht).symm.trans hk; replace hf := (if_t hk).symm.trans hf; cases hf; exact ⟨_, rfl⟩,
        ff := fun t382 c382 r hk hf => by obtain ⟨tq, ht, hf_⟩ := bsplit hf; replace hf := hf_; clear hf_; have hk : tq = false := (tbo_t ht).symm.trans hk; replace hf := (if_f hk).symm.trans hf; cases hf; exact ⟨rfl, ⟨rfl, ⟨rfl, ⟨rfl, ⟨rfl, ⟨rfl, ⟨rfl, ⟨rfl, ⟨rfl, ⟨rfl, ⟨rfl, trivial⟩⟩⟩⟩⟩⟩⟩⟩⟩⟩⟩, br := fun _ => (bare_cons rfl bare_nil), fr := (freeJ_cons ⟨trivial, ⟨trivial, trivial⟩⟩ freeJ_nil), fh := fun v => (freeJ_cons ⟨trivial, trivial⟩ freeJ_nil), pn := pnJ hpin (by decide), ln := (gd_d hp383) }
   hp385)) (fun hk => by have hq := (if_t hk).symm.trans hp386; cases hq; exact ⟨rfl, rfl⟩))) (fun hk => ?_) (fun hk => ?_)) ?_
      · refine sl_in ?_
        have e387 := (if_t hk).symm.trans hp389
        refine sl_cons (Γ1 := [some (.im (D.lst ((script).map D.int))), some (Pot.m2 p378.2), some (.im (D.int x288)), some (.im (D.int (1 + (p351.1)))), some (.im (D.int p352.1)), some (.im (eHouse (p369.2))), none, none, some (.im (D.lst ((p375.2).map D.int))), some (.im (D.tup ((p378.1).map D.int))), some (.im (D.str p379)), some (.im (D.lst ((([(D.str ("unfit" : Str)), (D.bl true), (D.bl false)] : (List D))).map eX))), none, none, none]) (s_set (Γ1 := [some (.im (D.lst ((script).map D.int))), some (Pot.m2 p378.2), some (.im (D.int x288)), some (.im (D.int (1 + (p351.1)))), some (.im (D.int p352.1)), some (.im (eHouse (p369.2))), none, none, some (.im (D.lst ((p375.2).map D.int))), some (.im (D.tup ((p378.1).map D.int))), some (.im (D.str p379)), some (.im (D.lst ((([(D.str ("told" : Str)), (eHouse p380)] : (List D))).map eX))), none, none, none]) (m := (.im (D.lst ((([(D.str ("unfit" : Str)), (D.bl true), (D.bl false)] : (List D))).map eX)))) 11 sc_law.nd rfl (by first | exact Or.inl rfl | exact Or.inr rfl) (np1 hpin (by decide)) (ee_lock (ee_lst (ds := List.map eX ([(D.str ("unfit" : Str)), (D.bl true), (D.bl false)] : (List D))) (ea_cons ee_str (ea_cons ee_bl (ea_cons ee_bl ea_nil))) (show 3 ≤ 1000 by decide))) ⟨trivial, ⟨trivial, trivial⟩⟩) ?_
        replace e387 := Option.some.inj e387
        subst e387
        exact sl_end ⟨rfl, ⟨rfl, ⟨rfl, ⟨rfl, ⟨rfl, ⟨rfl, ⟨rfl, ⟨rfl, ⟨rfl, ⟨rfl, trivial⟩⟩⟩⟩⟩⟩⟩⟩⟩⟩
      · refine sl_in ?_
        have e388 := (if_f hk).symm.trans hp389
        replace e388 := Option.some.inj e388
        subst e388
        exact sl_end ⟨rfl, ⟨rfl, ⟨rfl, ⟨rfl, ⟨rfl, ⟨rfl, ⟨rfl, ⟨rfl, ⟨rfl, ⟨rfl, trivial⟩⟩⟩⟩⟩⟩⟩⟩⟩⟩
      obtain ⟨p398, hp398, hf288_⟩ := bsplit hf288; replace hf288 := hf288_; clear hf288_
      refine sl_cons (Γ1 := [some (.im (D.lst ((script).map D.int))), some (Pot.m2 p378.2), some (.im (D.int x288)), some (.im (D.int (1 + (p351.1)))), some (.im (D.int p352.1)), some (.im (eHouse (p369.2))), none, none, some (.im (D.lst ((p375.2).map D.int))), some (.im (D.tup ((p378.1).map D.int))), some (.im (D.str p379)), some (.im (D.lst ((p389).map eX))), some (.im (D.lst ((p398).map eX))), none, none]) (s_if (et_eqI (ee_var 2 (pv 2)) ee_int) (fun hk => ?_) (fun hk => ?_)) ?_
      · refine sl_in ?_
        have e390 := (if_t hk).symm.trans hp398
        obtain ⟨p392, hp392, e390_⟩ := bsplit e390; replace e390 := e390_; clear e390_
        obtain ⟨p393, hp393, e390_⟩ := bsplit e390; replace e390 := e390_; clear e390_
        refine sl_cons (Γ1 := [some (.im (D.lst ((script).map D.int))), some (Pot.m2 p378.2), some (.im (D.int x288)), some (.im (D.int (1 + (p351.1)))), some (.im (D.int p352.1)), some (.im (eHouse (p369.2))), none, none, some (.im (D.lst ((p375.2).map D.int))), some (.im (D.tup ((p378.1).map D.int))), some (.im (D.str p379)), some (.im (D.lst ((p389).map eX))), some (.im (D.lst ((p393).map eX))), none, none]) (s_set (Γ1 := [some (.im (D.lst ((script).map D.int))), some (Pot.m2 p378.2), some (.im (D.int x288)), some (.im (D.int (1 + (p351.1)))), some (.im (D.int p352.1)), some (.im (eHouse (p369.2))), none, none, some (.im (D.lst ((p375.2).map D.int))), some (.im (D.tup ((p378.1).map D.int))), some (.im (D.str p379)), some (.im (D.lst ((p389).map eX))), none, none, none]) (m := (.im (D.lst ((p393).map eX)))) 12 sc_law.nd rfl (by first | exact Or.inl rfl | exact Or.inr rfl) (np1 hpin (by decide)) (ee_heard (k := 2) (Γ' := [some (.im (D.lst ((script).map D.int))), none, some (.im (D.int x288)), some (.im (D.int (1 + (p351.1)))), some (.im (D.int p352.1)), some (.im (eHouse (p369.2))), none, none, some (.im (D.lst ((p375.2).map D.int))), some (.im (D.tup ((p378.1).map D.int))), some (.im (D.str p379)), some (.im (D.lst ((p389).map eX))), none, none, none]) (p := (xmd (fun (r : tHouse) => (eHouse r)) p392)) (G_l_heard _ _ _ hp393) hr hG (by decide) g_l_heard kp_l_heard b_l_heard TB rfl (LamX.lamS_by (show LamX.lamSB (defScope s_law) _ = true by decide +kernel)) (fun A outer s HZ E f c' hr hG tk => match p392, hp392 with | .error x394, hp => (ex_callK0 (ds := [(eHouse (p369.2)), (D.tup ((p378.1).map D.int))]) (ds2 := [(D.tup ((p378.1).map D.int)), (eHouse (p369.2))]) tk (GX_gated.mono (by decide)) hr hG g_gated kp_gated k10_gated (ek_cons (ee_var 9 (pv 9)) (ek_cons (ee_var 5 (pv 5)) ek_nil)) (fun zs H hz => prm_rD (p := [1, 0]) hz) rfl ⟨(p369.2), p378.1, .error x394, hp, rfl, rfl⟩) | .ok v394, hp => (ee_callK0 (k := 2) (ds := [(eHouse (p369.2)), (D.tup ((p378.1).map D.int))]) (ds2 := [(D.tup ((p378.1).map D.int)), (eHouse (p369.2))]) (G_gated.mono (by decide)) hr hG g_gated kp_gated k10_gated (ek_cons (ee_var 9 (pv 9)) (ek_cons (ee_var 5 (pv 5)) ek_nil)) (fun zs H hz => prm_rD (p := [1, 0]) hz) rfl ⟨(p369.2), p378.1, v394, hp, rfl, rfl, rfl⟩))) ⟨trivial, ⟨trivial, trivial⟩⟩) ?_
        replace e390 := Option.some.inj e390
        subst e390
        exact sl_end ⟨rfl, ⟨rfl, ⟨rfl, ⟨rfl, ⟨rfl, ⟨rfl, ⟨rfl, ⟨rfl, ⟨rfl, ⟨rfl, ⟨rfl, trivial⟩⟩⟩⟩⟩⟩⟩⟩⟩⟩⟩
      · refine sl_in ?_
        have e391 := (if_f hk).symm.trans hp398
        obtain ⟨p395, hp395, e391_⟩ := bsplit e391; replace e391 := e391_; clear e391_
        obtain ⟨p396, hp396, e391_⟩ := bsplit e391; replace e391 := e391_; clear e391_
        refine sl_cons (Γ1 := [some (.im (D.lst ((script).map D.int))), some (Pot.m2 p378.2), some (.im (D.int x288)), some (.im (D.int (1 + (p351.1)))), some (.im (D.int p352.1)), some (.im (eHouse (p369.2))), none, none, some (.im (D.lst ((p375.2).map D.int))), some (.im (D.tup ((p378.1).map D.int))), some (.im (D.str p379)), some (.im (D.lst ((p389).map eX))), some (.im (D.lst ((p396).map eX))), none, none]) (s_set (Γ1 := [some (.im (D.lst ((script).map D.int))), some (Pot.m2 p378.2), some (.im (D.int x288)), some (.im (D.int (1 + (p351.1)))), some (.im (D.int p352.1)), some (.im (eHouse (p369.2))), none, none, some (.im (D.lst ((p375.2).map D.int))), some (.im (D.tup ((p378.1).map D.int))), some (.im (D.str p379)), some (.im (D.lst ((p389).map eX))), none, none, none]) (m := (.im (D.lst ((p396).map eX)))) 12 sc_law.nd rfl (by first | exact Or.inl rfl | exact Or.inr rfl) (np1 hpin (by decide)) (ee_heard (k := 2) (Γ' := [some (.im (D.lst ((script).map D.int))), none, some (.im (D.int x288)), some (.im (D.int (1 + (p351.1)))), some (.im (D.int p352.1)), some (.im (eHouse (p369.2))), none, none, some (.im (D.lst ((p375.2).map D.int))), some (.im (D.tup ((p378.1).map D.int))), some (.im (D.str p379)), some (.im (D.lst ((p389).map eX))), none, none, none]) (p := (xmd (fun (r : tHouse) => (eHouse r)) p395)) (G_l_heard _ _ _ hp396) hr hG (by decide) g_l_heard kp_l_heard b_l_heard TB rfl (LamX.lamS_by (show LamX.lamSB (defScope s_law) _ = true by decide +kernel)) (fun A outer s HZ E f c' hr hG tk => match p395, hp395 with | .error x397, hp => (ex_call tk (GX_gated.mono (by decide)) hr hG g_gated kp_gated b_gated (ea_cons (ee_var 5 (pv 5)) (ea_cons (ee_var 9 (pv 9)) ea_nil)) ⟨(p369.2), p378.1, .error x397, hp, rfl, rfl⟩) | .ok v397, hp => (ee_callX (k := 2) (G_gated.mono (by decide)) hr hG g_gated kp_gated b_gated (ea_cons (ee_var 5 (pv 5)) (ea_cons (ee_var 9 (pv 9)) ea_nil)) ⟨(p369.2), p378.1, v397, hp, rfl, rfl, rfl⟩))) ⟨trivial, ⟨trivial, trivial⟩⟩) ?_
        replace e391 := Option.some.inj e391
        subst e391
        exact sl_end ⟨rfl, ⟨rfl, ⟨rfl, ⟨rfl, ⟨rfl, ⟨rfl, ⟨rfl, ⟨rfl, ⟨rfl, ⟨rfl, ⟨rfl, trivial⟩⟩⟩⟩⟩⟩⟩⟩⟩⟩⟩
      obtain ⟨p399, hp399, hf288_⟩ := bsplit hf288; replace hf288 := hf288_; clear hf288_
      obtain ⟨p400, hp400, hf288_⟩ := bsplit hf288; replace hf288 := hf288_; clear hf288_
      obtain ⟨p403, hp403, hf288_⟩ := bsplit hf288; replace hf288 := hf288_; clear hf288_
      rcases Bool.eq_false_or_eq_true (p403) with hk404 | hk404
      · replace hf288 := (if_t hk404).symm.trans hf288
        refine sl_ift (ET.ofW (ew_or (Γ' := [some (.im (D.lst ((script).map D.int))), some (Pot.m2 p378.2), some (.im (D.int x288)), some (.im (D.int (1 + (p351.1)))), some (.im (D.int p352.1)), some (.im (eHouse (p369.2))), none, none, some (.im (D.lst ((p375.2).map D.int))), some (.im (D.tup ((p378.1).map D.int))), some (.im (D.str p379)), some (.im (D.lst ((p389).map eX))), some (.im (D.lst ((p398).map eX))), none, none]) (k := p403) (et_neS (ee_shXX hy hG hr.units g_repr (ee_var 12 (pv 12)) hp399) (ee_shXX hy hG hr.units g_repr (ee_var 11 (pv 11)) hp400)) (fun hk => by
            have e401 := (if_f hk).symm.trans hp403; obtain ⟨p402, hp402, e401_⟩ := bsplit e401; replace e401 := e401_; clear e401_; replace e401 := Option.some.inj e401; subst e401; exact (ew_or1 (et_neS (ee_shDD hG hr.units g_repr (ee_lock (ee_lst (ds := [(eHouse (p369.2)), (D.tup ((p378.1).map D.int))]) (ea_cons (ee_var 5 (pv 5)) (ea_cons (ee_var 9 (pv 9)) ea_nil)) (show 2 ≤ 1000 by decide))) hp402) (ee_var 10 (pv 10))))) (fun hk => by have hq := (if_t hk).symm.trans hp403; cases hq; exact ⟨rfl, rfl⟩))) hk404 ?_
        replace hf288 := Option.some.inj hf288
        subst hf288
        exact sl_exit (s_ret (Γ1 := [some (.im (D.lst ((script).map D.int))), some (Pot.m2 p378.2), some (.im (D.int x288)), some (.im (D.int (1 + (p351.1)))), some (.im (D.int p352.1)), some (.im (eHouse (p369.2))), none, none, some (.im (D.lst ((p375.2).map D.int))), some (.im (D.tup ((p378.1).map D.int))), some (.im (D.str p379)), some (.im (D.lst ((p389).map eX))), some (.im (D.lst ((p398).map eX))), none, none]) (m := (.im (D.bl false))) ee_bl trivial) rfl
      · replace hf288 := (if_f hk404).symm.trans hf288
        refine sl_iff (ET.ofW (ew_or (Γ' := [some (.im (D.lst ((script).map D.int))), some (Pot.m2 p378.2), some (.im (D.int x288)), some (.im (D.int (1 + (p351.1)))), some (.im (D.int p352.1)), some (.im (eHouse (p369.2))), none, none, some (.im (D.lst ((p375.2).map D.int))), some (.im (D.tup ((p378.1).map D.int))), some (.im (D.str p379)), some (.im (D.lst ((p389).map eX))), some (.im (D.lst ((p398).map eX))), none, none]) (k := p403) (et_neS (ee_shXX hy hG hr.units g_repr (ee_var 12 (pv 12)) hp399) (ee_shXX hy hG hr.units g_repr (ee_var 11 (pv 11)) hp400)) (fun hk => by
            have e401 := (if_f hk).symm.trans hp403; obtain ⟨p402, hp402, e401_⟩ := bsplit e401; replace e401 := e401_; clear e401_; replace e401 := Option.some.inj e401; subst e401; exact (ew_or1 (et_neS (ee_shDD hG hr.units g_repr (ee_lock (ee_lst (ds := [(eHouse (p369.2)), (D.tup ((p378.1).map D.int))]) (ea_cons (ee_var 5 (pv 5)) (ea_cons (ee_var 9 (pv 9)) ea_nil)) (show 2 ≤ 1000 by decide))) hp402) (ee_var 10 (pv 10))))) (fun hk => by have hq := (if_t hk).symm.trans hp403; cases hq; exact ⟨rfl, rfl⟩))) hk404 ?_
        refine sl_pop ?_
        obtain ⟨p411, hp411, hf288_⟩ := bsplit hf288; replace hf288 := hf288_; clear hf288_
        rcases Bool.eq_false_or_eq_true (p411) with hk412 | hk412
        · replace hf288 := (if_t hk412).symm.trans hf288
          refine sl_ift (ET.ofW (ew_and (Γ' := [some (.im (D.lst ((script).map D.int))), some (Pot.m2 p378.2), some (.im (D.int x288)), some (.im (D.int (1 + (p351.1)))), some (.im (D.int p352.1)), some (.im (eHouse (p369.2))), none, none, some (.im (D.lst ((p375.2).map D.int))), some (.im (D.tup ((p378.1).map D.int))), some (.im (D.str p379)), some (.im (D.lst ((p389).map eX))), some (.im (D.lst ((p398).map eX))), none, none]) (k := p411) (et_eqI (ee_var 2 (pv 2)) ee_int) (fun hk => by
            have e405 := (if_t hk).symm.trans hp411; obtain ⟨p406, hp406, e405_⟩ := bsplit e405; replace e405 := e405_; clear e405_; obtain ⟨p407, hp407, e405_⟩ := bsplit e405; replace e405 := e405_; clear e405_; obtain ⟨p409, hp409, e405_⟩ := bsplit e405; replace e405 := e405_; clear e405_; obtain ⟨p410, hp410, e405_⟩ := bsplit e405; replace e405 := e405_; clear e405_; replace e405 := Option.some.inj e405; subst e405; exact (ew_and1 (et_neS (ee_shXX hy hG hr.units g_repr (ee_heard (k := 2) (Γ' := [some (.im (D.lst ((script).map D.int))), none, some (.im (D.int x288)), some (.im (D.int (1 + (p351.1)))), some (.im (D.int p352.1)), some (.im (eHouse (p369.2))), none, none, some (.im (D.lst ((p375.2).map D.int))), some (.im (D.tup ((p378.1).map D.int))), some (.im (D.str p379)), some (.im (D.lst ((p389).map eX))), some (.im (D.lst ((p398).map eX))), none, none]) (p := (xmd (fun (r : tHouse) => (eHouse r)) p406)) (G_l_heard _ _ _ hp407) hr hG (by decide) g_l_heard kp_l_heard b_l_heard TB rfl (LamX.lamS_by (show LamX.lamSB (defScope s_law) _ = true by decide +kernel)) (fun A outer s HZ E f c' hr hG tk => match p406, hp406 with | .error x408, hp => (ex_call tk (GX_gated.mono (by decide)) hr hG g_gated kp_gated b_gated (ea_cons (ee_var 5 (pv 5)) (ea_cons (ee_var 9 (pv 9)) ea_nil)) ⟨(p369.2), p378.1, .error x408, hp, rfl, rfl⟩) | .ok v408, hp => (ee_callX (k := 2) (G_gated.mono (by decide)) hr hG g_gated kp_gated b_gated (ea_cons (ee_var 5 (pv 5)) (ea_cons (ee_var 9 (pv 9)) ea_nil)) ⟨(p369.2), p378.1, v408, hp, rfl, rfl, rfl⟩))) hp409) (ee_shXX hy hG hr.units g_repr (ee_var 11 (pv 11)) hp410)))) (fun hk => by have hq := (if_f hk).symm.trans hp411; cases hq; exact ⟨rfl, rfl⟩))) hk412 ?_
          replace hf288 := Option.some.inj hf288
          subst hf288
          exact sl_exit (s_ret (Γ1 := [some (.im (D.lst ((script).map D.int))), some (Pot.m2 p378.2), some (.im (D.int x288)), some (.im (D.int (1 + (p351.1)))), some (.im (D.int p352.1)), some (.im (eHouse (p369.2))), none, none, some (.im (D.lst ((p375.2).map D.int))), some (.im (D.tup ((p378.1).map D.int))), some (.im (D.str p379)), some (.im (D.lst ((p389).map eX))), some (.im (D.lst ((p398).map eX))), none, none]) (m := (.im (D.bl false))) ee_bl trivial) rfl
        · replace hf288 := (if_f hk412).symm.trans hf288
          refine sl_iff (ET.ofW (ew_and (Γ' := [some (.im (D.lst ((script).map D.int))), some (Pot.m2 p378.2), some (.im (D.int x288)), some (.im (D.int (1 + (p351.1)))), some (.im (D.int p352.1)), some (.im (eHouse (p369.2))), none, none, some (.im (D.lst ((p375.2).map D.int))), some (.im (D.tup ((p378.1).map D.int))), some (.im (D.str p379)), some (.im (D.lst ((p389).map eX))), some (.im (D.lst ((p398).map eX))), none, none]) (k := p411) (et_eqI (ee_var 2 (pv 2)) ee_int) (fun hk => by
            have e405 := (if_t hk).symm.trans hp411; obtain ⟨p406, hp406, e405_⟩ := bsplit e405; replace e405 := e405_; clear e405_; obtain ⟨p407, hp407, e405_⟩ := bsplit e405; replace e405 := e405_; clear e405_; obtain ⟨p409, hp409, e405_⟩ := bsplit e405; replace e405 := e405_; clear e405_; obtain ⟨p410, hp410, e405_⟩ := bsplit e405; replace e405 := e405_; clear e405_; replace e405 := Option.some.inj e405; subst e405; exact (ew_and1 (et_neS (ee_shXX hy hG hr.units g_repr (ee_heard (k := 2) (Γ' := [some (.im (D.lst ((script).map D.int))), none, some (.im (D.int x288)), some (.im (D.int (1 + (p351.1)))), some (.im (D.int p352.1)), some (.im (eHouse (p369.2))), none, none, some (.im (D.lst ((p375.2).map D.int))), some (.im (D.tup ((p378.1).map D.int))), some (.im (D.str p379)), some (.im (D.lst ((p389).map eX))), some (.im (D.lst ((p398).map eX))), none, none]) (p := (xmd (fun (r : tHouse) => (eHouse r)) p406)) (G_l_heard _ _ _ hp407) hr hG (by decide) g_l_heard kp_l_heard b_l_heard TB rfl (LamX.lamS_by (show LamX.lamSB (defScope s_law) _ = true by decide +kernel)) (fun A outer s HZ E f c' hr hG tk => match p406, hp406 with | .error x408, hp => (ex_call tk (GX_gated.mono (by decide)) hr hG g_gated kp_gated b_gated (ea_cons (ee_var 5 (pv 5)) (ea_cons (ee_var 9 (pv 9)) ea_nil)) ⟨(p369.2), p378.1, .error x408, hp, rfl, rfl⟩) | .ok v408, hp => (ee_callX (k := 2) (G_gated.mono (by decide)) hr hG g_gated kp_gated b_gated (ea_cons (ee_var 5 (pv 5)) (ea_cons (ee_var 9 (pv 9)) ea_nil)) ⟨(p369.2), p378.1, v408, hp, rfl, rfl, rfl⟩))) hp409) (ee_shXX hy hG hr.units g_repr (ee_var 11 (pv 11)) hp410)))) (fun hk => by have hq := (if_f hk).symm.trans hp411; cases hq; exact ⟨rfl, rfl⟩))) hk412 ?_
          refine sl_pop ?_
          replace hf288 := Option.some.inj hf288
          subst hf288
          exact sl_end ⟨rfl, ⟨rfl, trivial⟩⟩
    replace h := Option.some.inj h
    subst h
    exact sl_exit (s_ret (Γ1 := [some (.im (D.lst ((script).map D.int))), some (Pot.m2 q414), none, none, none, none, none, none, none, none, none, none, none, none, none]) (m := (.im (D.bl true))) ee_bl trivial) rfl
def held_L1  (s : (List Int)) (x : (Str × Int)) : Option (List Int) := if (decide ((x.1) = ("in" : Str))) = true then ((gd (decide ((s).length < sizeLine))).bind fun p2 => some (s ++ [(x.2)])) else (((s).getLast?).bind fun p3 => some (s).dropLast)
end LW


set_option maxHeartbeats 1000000
namespace LW
open PySem L2 RL
/-! ### plain: the pot that is a list, ways, doors, houses (the pot2 family) -/
local macro_rules | `(tactic| walk_at "wg") => `(tactic| first
  | refine W.g (by omega) ?_
  | refine W.g (by (first | with_reducible refine bigl ?_ | with_reducible refine big ?_); (try simp only [len_numL, rng_length, List.length_append, List.length_map, List.length_cons, List.length_nil, List.length_replicate, List.length_zip]); omega) ?_)
theorem pot_w {ns : List Int} : W (l_pot_m ns) Pot.ok := by
  unfold l_pot_m
  have hc : (cutL ns none (some 63)).length ≤ 63 := by
    have := cutL_to (xs := ns) (n := 63)
    rw [show ((63 : Nat) : Int) = 63 from rfl] at this
    rw [this]
    exact List.length_take_le _ _
  walk_at "wg"
  refine W.e (lcM_mapU (g := fun c310 : Int => (2 * (if c310 < 0 then -c310 else c310)) + (if (decide (c310 < 0)) = true then 1 else 0))) ?_
  refine W.b (W.forS1 (fun _ => True) trivial fun x _ s _ => ⟨_, rfl, trivial⟩) fun s' _ => ?_
  walk_at "wg"
  refine W.e (lcM_filterU (g := fun x : Int => x)) (W.s ?_)
  show (List.map _ _).length ≤ 63
  rw [List.length_map]
  refine Nat.le_trans (List.length_filter_le _ _) ?_
  rw [List.length_map]
  omega
theorem perm_pop {α : Type} {xs l r : List α} {i : Nat} {x : α} (h : (l ++ r).Perm xs) (e : l[i]? = some x) : (l.eraseIdx i ++ (r ++ [x])).Perm xs := by
  refine List.Perm.trans ?_ h
  have p : (x :: l.eraseIdx i).Perm l := by
    exact L2.erase_perm l i x e
  refine List.Perm.trans ?_ (p.append_right r)
  rw [← List.append_assoc]
  refine (List.perm_append_comm (l₁ := l.eraseIdx i ++ r) (l₂ := [x])).trans ?_
  exact List.Perm.refl _
theorem mixQ_w {d : Pot} {xs : List Int} (h : d.ok) (hx : xs.length ≤ 1000) : W (l_mixed_m d xs) fun p => p.2.ok ∧ p.1.Perm xs := by
  unfold l_mixed_m
  refine W.b (W.wh (fun s : Pot × List Int × List Int => s.1.ok ∧ (s.2.1 ++ s.2.2).Perm xs) (fun s => s.2.1.length) ⟨h, by simp⟩ (by show xs.length < 100000; omega) fun s ⟨i1, i2⟩ hc => ?_) fun s ⟨⟨i1, i2⟩, hc⟩ => ?_
  · obtain ⟨dk, l, r⟩ := s
    simp only at i1 i2
    have hl : 1 ≤ l.length := by
      unfold l_mixed_L1c at hc
      cases l with
      | nil => cases hc
      | cons a b => simp
    have ln := i2.length_eq
    rw [List.length_append] at ln
    unfold l_mixed_L1
    refine W.b (drawQ_tot (n := (l.length : Int)) i1 (by omega) (by omega)) fun p ⟨p1, p2, p3⟩ => ?_
    refine W.b (popI_W p2 p3) fun q ⟨q1, q2, q3⟩ => ?_
    refine W.g (by show l.length ≤ 1000000; omega) ?_
    refine W.g (bigl (by show r.length ≤ 1000000; omega)) ?_
    refine W.s ⟨⟨p1, ?_⟩, ?_⟩
    · show (q.2 ++ (r ++ [q.1])).Perm xs
      rw [q2]
      exact perm_pop i2 q3
    · show q.2.length < l.length
      rw [q2, List.length_eraseIdx]
      show (if p.1.toNat < l.length then l.length - 1 else l.length) < l.length
      rw [if_pos (by omega)]
      omega
  · have e : s.2.1 = [] := by
      unfold l_mixed_L1c at hc
      cases q : s.2.1 with
      | nil => rfl
      | cons a b => rw [q] at hc; cases hc
    rw [e, List.nil_append] at i2
    exact W.s ⟨i1, i2⟩
abbrev Way := List (Str × Int)
/-- a step of a way -/
def okS (rooms : Int) (s : Str × Int) : Prop := (s.1 = "in" ∨ s.1 = "out") ∧ 0 ≤ s.2 ∧ s.2 < rooms
/-- what is held at a place -/
def heldP (way : Way) (place : Int) : List Int := (forS held_L1 [] (way.take place.toNat)).getD []
/-- what is entered is not held, what is left was entered last -/
def Nest (way : Way) : Prop := ∀ (i : Nat) s, way[i]? = some s → (s.1 = "in" ∧ s.2 ∉ heldP way i) ∨ (s.1 = "out" ∧ (heldP way i).getLast? = some s.2)
structure GoodW (rooms : Int) (way : Way) : Prop where
  ne : 1 ≤ way.length
  len : way.length ≤ 40
  all : ∀ s ∈ way, okS rooms s
  run : forS held_L1 [] way = some []
  nest : Nest way
theorem nest_snoc {way : Way} {s : Str × Int} {st : List Int} (h : Nest way) (e : forS held_L1 [] way = some st) (n : (s.1 = "in" ∧ s.2 ∉ st) ∨ (s.1 = "out" ∧ st.getLast? = some s.2)) : Nest (way ++ [s]) := by
  intro i x hx
  rcases Nat.lt_or_ge i way.length with l | l
  · rw [List.getElem?_append_left l] at hx
    have := h i x hx
    unfold heldP at this ⊢
    rw [Int.toNat_natCast, List.take_append_of_le_length (by omega)]
    rwa [Int.toNat_natCast] at this
  · rw [List.getElem?_append_right l] at hx
    have e2 : i - way.length = 0 := by
      cases q : i - way.length with
      | zero => rfl
      | succ n => rw [q] at hx; simp at hx
    rw [e2] at hx
    simp at hx
    subst hx
    have e3 : i = way.length := by omega
    subst e3
    unfold heldP
    rw [Int.toNat_natCast, List.take_append_of_le_length (Nat.le_refl _), List.take_length, e]
    exact n
theorem in_out : ¬ (Str.ofString "out" = Str.ofString "in") := by decide
theorem held_in {s : List Int} {r : Int} (h : s.length ≤ 1000) : held_L1 s (("in" : Str), r) = some (s ++ [r]) := by
  unfold held_L1
  rw [if_pos (decide_eq_true rfl), gdd (bigl (by omega))] <;> rfl
theorem held_out {s : List Int} {r v : Int} (h : s.getLast? = some v) : held_L1 s (("out" : Str), r) = some s.dropLast := by
  unfold held_L1
  rw [if_neg (fun z => in_out (of_decide_eq_true z)), h] <;> rfl
abbrev Door := List (List Str) × List (List Int)
abbrev House := List (Option Door) × List Way
def okWord (w : Str) : Prop := w = "-" ∨ w = "even" ∨ w = "stand" ∨ w = "bow"
def Rect (h : Nat) (rows : List (List Str)) : Prop := rows.length = h ∧ ∀ r ∈ rows, r.length = h ∧ ∀ w ∈ r, okWord w
theorem mem_set {α : Type} {l : List α} {i : Nat} {x y : α} (h : y ∈ l.set i x) : y = x ∨ y ∈ l := by
  rcases List.mem_or_eq_of_mem_set h with z | z
  · exact .inr z
  · exact .inl z
theorem setT_W {h : Nat} {rows : List (List Str)} {i j : Int} {x : Str} (R : Rect h rows) (i0 : 0 ≤ i) (i1 : i < h) (j0 : 0 ≤ j) (j1 : j < h) (hx : okWord x) : W (setT rows i j x) (Rect h) := by
  obtain ⟨R1, R2⟩ := R
  have hl : i.toNat < rows.length := by omega
  obtain ⟨r1, r2⟩ := R2 rows[i.toNat] (List.getElem_mem hl)
  unfold setT
  rw [ixN_pos i0 (by omega)]
  show W ((rows[i.toNat]?).bind _) _
  rw [List.getElem?_eq_getElem hl]
  show W ((ixN rows[i.toNat].length j).map _) _
  rw [ixN_pos j0 (by omega)]
  refine ⟨_, rfl, by rw [List.length_set]; exact R1, fun r hr => ?_⟩
  rcases mem_set hr with e | e
  · subst e
    refine ⟨by rw [List.length_set]; exact r1, fun w hw => ?_⟩
    rcases mem_set hw with e | e
    · subst e; exact hx
    · exact r2 w e
  · exact R2 r e
def cellR (rows : List (List Str)) (i j : Nat) : Str := (rows.getD i []).getD j ""
/-- who is even with another one is met likewise -/
def SymE (rows : List (List Str)) : Prop := ∀ i j, cellR rows i j = "even" → cellR rows j i = "even"
theorem setT_cell {h : Nat} {rows r : List (List Str)} {i j : Int} {x : Str} (R : Rect h rows) (i0 : 0 ≤ i) (i1 : i < h) (j0 : 0 ≤ j) (j1 : j < h) (e : setT rows i j x = some r) (a b : Nat) : cellR r a b = if a = i.toNat ∧ b = j.toNat then x else cellR rows a b := by
  obtain ⟨R1, R2⟩ := R
  have hl : i.toNat < rows.length := by omega
  obtain ⟨r1, r2⟩ := R2 rows[i.toNat] (List.getElem_mem hl)
  unfold setT at e
  rw [ixN_pos i0 (by omega)] at e
  change ((rows[i.toNat]?).bind _) = _ at e
  rw [List.getElem?_eq_getElem hl] at e
  change ((ixN rows[i.toNat].length j).map _) = _ at e
  rw [ixN_pos j0 (by omega)] at e
  have e := (Option.some.inj e).symm
  change r = rows.set i.toNat (rows[i.toNat].set j.toNat x) at e
  subst e
  unfold cellR
  by_cases ha : a = i.toNat
  · subst ha
    have e1 : (rows.set i.toNat (rows[i.toNat].set j.toNat x)).getD i.toNat [] = rows[i.toNat].set j.toNat x := by simp [List.getD, hl]
    have e2 : rows.getD i.toNat [] = rows[i.toNat] := by simp [List.getD, hl]
    rw [e1, e2]
    by_cases hb : b = j.toNat
    · subst hb
      rw [if_pos ⟨rfl, rfl⟩]
      have hj : j.toNat < rows[i.toNat].length := by omega
      simp [List.getD, hj]
    · rw [if_neg (fun z => hb z.2)]
      unfold List.getD
      rw [List.getElem?_set_ne (fun z => hb z.symm)]
  · rw [if_neg (fun z => ha z.1)]
    unfold List.getD
    rw [List.getElem?_set_ne (fun z => ha z.symm)]
/-- the others of a hand -/
def others (h : Nat) (k : Nat) : List Int := (rng 0 h).filter fun j => !decide (j = (k : Int))
structure GoodD (h : Nat) (d : Door) : Prop where
  rect : Rect h d.1
  sym : SymE d.1
  ol : d.2.length = h
  ord : ∀ (k : Nat) o, d.2[k]? = some o → o.Perm (others h k)
  dg : ∀ i, i < h → cellR d.1 i i = "-"
theorem rng_split {lo hi : Int} {zs r : List Int} {x : Int} (e : rng lo hi = zs ++ x :: r) : x = lo + zs.length := by
  have h : (rng lo hi)[zs.length]? = some x := by rw [e]; simp
  unfold rng at h
  rw [List.getElem?_map] at h
  cases q : (List.range (hi - lo).toNat)[zs.length]? with
  | none => rw [q] at h; cases h
  | some k =>
    rw [q] at h
    rw [List.getElem?_range] at q
    · cases q; cases h; rfl
    · exact Decidable.byContradiction fun z => by rw [List.getElem?_eq_none (by simp; omega)] at q; cases q
structure GoodH (hands rooms : Int) (h : House) : Prop where
  h1 : 1 ≤ hands
  h5 : hands ≤ 5
  r1 : 1 ≤ rooms
  r6 : rooms ≤ 6
  lr : (h.1.length : Int) = rooms
  lh : (h.2.length : Int) = hands
  dr : ∀ o ∈ h.1, ∀ d, o = some d → GoodD hands.toNat d
  wy : ∀ w ∈ h.2, GoodW rooms w
/-! #### a drawn way -/
def winv (rooms : Int) (s : Pot × Way × List Int) : Prop := s.1.ok ∧ forS held_L1 [] s.2.1 = some s.2.2 ∧ (∀ x ∈ s.2.1, okS rooms x) ∧ (∀ r ∈ s.2.2, 0 ≤ r ∧ r < rooms) ∧ Nest s.2.1
/-- what may be entered: a drawn way enters what it does not hold -/
theorem free_w {rooms : List Int} {b : Bool} {s : Pot × Way × List Int} : ∃ fr : List Int, RL.lcM (fun (t329 : Unit) (c329 : Int) => (((if (!(decide (c329 ∈ (s.2.2)))) = true then ((if b = true then ((if (!((s.2.2)).isEmpty) = true then ((atI (s.2.2) (-1)).bind fun p334 => some (decide (c329 < p334))) else (some false)).bind fun p335 => some p335) else (some false)).bind fun p336 => some (!p336)) else (some false)).bind fun p337 => some p337)).bind fun tq => if tq = true then (some ((), some c329)) else some ((), none)) () rooms = some ((), fr) ∧ (∀ r ∈ fr, r ∈ rooms ∧ r ∉ s.2.2) ∧ fr.length ≤ rooms.length ∧ (s.2.2 = [] → fr = rooms) := by
  have key : ∀ c : Int, ∃ t : Bool, ((if (!(decide (c ∈ (s.2.2)))) = true then ((if b = true then ((if (!((s.2.2)).isEmpty) = true then ((atI (s.2.2) (-1)).bind fun p334 => some (decide (c < p334))) else (some false)).bind fun p335 => some p335) else (some false)).bind fun p336 => some (!p336)) else (some false)).bind fun p337 => some p337) = some t ∧ (t = true → c ∉ s.2.2) ∧ (s.2.2 = [] → t = true) := by
    intro c
    cases hs : s.2.2 with
    | nil => exact ⟨true, by cases b <;> rfl, fun _ => by simp, fun _ => rfl⟩
    | cons y ys =>
      obtain ⟨z, hz⟩ : ∃ z, atI (y :: ys) (-1) = some z := by
        unfold atI ixN
        rw [if_neg (by omega), if_pos (by simp only [List.length_cons]; omega)]
        exact ⟨_, List.getElem?_eq_getElem (by simp only [List.length_cons]; omega)⟩
      by_cases hm : c ∈ y :: ys
      · refine ⟨false, ?_, fun z => (by cases z), fun z => by cases z⟩
        rw [if_neg (by rw [decide_eq_true hm]; decide)]
        rfl
      · rw [if_pos (by rw [decide_eq_false hm]; rfl), hz]
        cases b with
        | false => exact ⟨true, rfl, fun _ => hm, fun _ => rfl⟩
        | true => exact ⟨!(decide (c < z)), rfl, fun _ => hm, fun z => by cases z⟩
  refine ⟨_, W.lcP (g := fun x : Int => x) (o := fun c => ((if (!(decide (c ∈ (s.2.2)))) = true then ((if b = true then ((if (!((s.2.2)).isEmpty) = true then ((atI (s.2.2) (-1)).bind fun p334 => some (decide (c < p334))) else (some false)).bind fun p335 => some p335) else (some false)).bind fun p336 => some (!p336)) else (some false)).bind fun p337 => some p337)) (fun x _ => ⟨_, (key x).choose_spec.1⟩), fun r hr => ?_, ?_, fun he => ?_⟩
  · rw [List.map_id'] at hr
    obtain ⟨h1, h2⟩ := List.mem_filter.mp hr
    obtain ⟨t, e, k1, _⟩ := key r
    rw [e] at h2
    exact ⟨h1, k1 h2⟩
  · rw [List.map_id']
    exact List.length_filter_le _ _
  · rw [List.map_id', List.filter_eq_self]
    intro r _
    obtain ⟨t, e, _, k2⟩ := key r
    rw [e, k2 he] <;> rfl
theorem way_step {B : Int} (hB : B ≤ 26) {rooms : Int} {b : Bool} {sm : List Int} (hs : ∀ r ∈ sm, 0 ≤ r ∧ r < rooms) (hn : sm ≠ []) (hl : sm.length ≤ 6) (s : Pot × Way × List Int) (i : winv rooms s) (hc : l_way_L1c sm B b s = true) : W (l_way_L1 sm B b s) fun s' => winv rooms s' ∧ s'.2.1.length = s.2.1.length + 1 ∧ s'.2.2.length ≤ s.2.2.length + 1 := by
  obtain ⟨dk, steps, stack⟩ := s
  obtain ⟨i1, i2, i3, i4, i5⟩ := i
  simp only at i1 i2 i3 i4 i5
  have hcl : (steps.length : Int) + (stack.length : Int) < B := by
    unfold l_way_L1c at hc
    exact of_decide_eq_true hc
  unfold l_way_L1
  walk_at "wg"
  obtain ⟨fr, e, f1, f2, f3⟩ := free_w (rooms := sm) (b := b) (s := (dk, steps, stack))
  refine W.e e ?_
  clear e
  simp only at f1 f3 ⊢
  refine W.b (Q := fun p : Bool × Pot => p.2.ok ∧ (p.1 = false → stack ≠ []) ∧ (p.1 = true → 1 ≤ fr.length)) (W.i (fun h0 => W.s ⟨i1, fun z => (by cases z), fun _ => ?_⟩) fun h0 => ?_) fun p ⟨k1, k2, k3⟩ => ?_
  · have : stack = [] := by
      cases stack with
      | nil => rfl
      | cons a l => cases h0
    rw [f3 this]
    exact List.length_pos_iff.mpr hn
  · have ne : stack ≠ [] := fun z => by rw [z] at h0; cases h0
    refine W.b (Q := fun p : Bool × Pot => p.2.ok ∧ (p.1 = true → 1 ≤ fr.length)) (W.i (fun hf => ?_) fun hf => W.s ⟨i1, fun z => by cases z⟩) fun p ⟨k1, k2⟩ => W.s ⟨k1, fun _ => ne, k2⟩
    have lf : 1 ≤ fr.length := by
      cases q : fr with
      | nil => rw [q] at hf; cases hf
      | cons a b => simp
    exact W.b (drawQ_tot (n := 5) i1 (by omega) (by omega)) fun p ⟨k1, _, _⟩ => W.s ⟨k1, fun _ => lf⟩
  refine W.i (fun hb => ?_) fun hb => ?_
  · have fne := k3 hb
    refine W.b (pickQ_tot (xs := fr) k1 fne (by omega)) fun r ⟨d1, d2⟩ => ?_
    have rr := hs _ (f1 _ d2).1
    walk_at "wg"
    refine W.e (a := r.1) ?_ ?_
    · unfold atI ixN
      rw [if_neg (by omega), if_pos (by rw [List.length_append]; simp; omega)]
      show (stack ++ [r.1])[_]? = _
      rw [show ((-1 : Int) + ((stack ++ [r.1]).length : Nat)).toNat = stack.length from by rw [List.length_append]; simp; omega]
      simp
    walk_at "wg"
    refine W.s ⟨⟨d1, forS_snoc i2 (held_in (by omega)), ?_, ?_, nest_snoc i5 i2 (.inl ⟨rfl, (f1 _ d2).2⟩)⟩, ?_, ?_⟩
    · intro x hx
      rcases List.mem_append.mp hx with z | z
      · exact i3 x z
      · rw [List.mem_singleton] at z
        subst z
        exact ⟨.inl rfl, rr.1, rr.2⟩
    · intro x hx
      rcases List.mem_append.mp hx with z | z
      · exact i4 x z
      · rw [List.mem_singleton] at z
        subst z
        exact ⟨rr.1, rr.2⟩
    · show (steps ++ [_]).length = _; simp
    · show (stack ++ [_]).length ≤ _; simp
  · have ne := k2 hb
    have lp : 1 ≤ stack.length := List.length_pos_iff.mpr ne
    obtain ⟨c, hc2⟩ : ∃ c, stack.getLast? = some c := ⟨_, List.getLast?_eq_some_getLast ne⟩
    refine W.e hc2 ?_
    walk_at "wg"
    refine W.s ⟨⟨k1, forS_snoc i2 (held_out hc2), ?_, fun r hr => i4 r (List.dropLast_subset _ hr), nest_snoc i5 i2 (.inr ⟨rfl, hc2⟩)⟩, ?_, ?_⟩
    · intro x hx
      rcases List.mem_append.mp hx with z | z
      · exact i3 x z
      · rw [List.mem_singleton] at z
        subst z
        exact ⟨.inr rfl, i4 c (List.mem_of_getLast? hc2)⟩
    · show (steps ++ [_]).length = _; simp
    · show stack.dropLast.length ≤ _; simp; omega
def wend (rooms : Int) (t : Nat) (s : Way × List Int) : Prop := forS held_L1 [] s.1 = some s.2 ∧ (∀ x ∈ s.1, okS rooms x) ∧ (∀ r ∈ s.2, 0 ≤ r ∧ r < rooms) ∧ Nest s.1 ∧ s.1.length + s.2.length = t
theorem way_w {B : Int} (h1 : 1 ≤ B) (hB : B ≤ 24) {dk : Pot} {rooms : Int} {b : Bool} {sm : List Int} (h : dk.ok) (hs : ∀ r ∈ sm, 0 ≤ r ∧ r < rooms) (hn : sm ≠ []) (hl : sm.length ≤ 6) : W (l_way_m dk sm B b) fun p => p.2.ok ∧ GoodW rooms p.1 ∧ p.1.length ≤ 25 := by
  unfold l_way_m
  refine W.b (W.wh (fun s : Pot × Way × List Int => winv rooms s ∧ s.2.1.length + s.2.2.length ≤ 25) (fun s => 30 - s.2.1.length) ⟨⟨h, rfl, fun x hx => (nomatch hx), fun x hx => (nomatch hx), fun i s hs => by simp at hs⟩, by simp⟩ (by omega) fun s ⟨i1, i2⟩ hc => ?_) fun s ⟨⟨⟨j1, j2, j3, j4, j5⟩, j6⟩, hc⟩ => ?_
  · have hcl : (s.2.1.length : Int) + (s.2.2.length : Int) < B := by
      unfold l_way_L1c at hc
      exact of_decide_eq_true hc
    refine (way_step (by omega) hs hn hl s i1 hc).m fun s' ⟨k1, k2, k3⟩ => ⟨⟨k1, by omega⟩, by omega⟩
  · have hcl : B ≤ (s.2.1.length : Int) + (s.2.2.length : Int) := by
      unfold l_way_L1c at hc
      have := of_decide_eq_false hc
      omega
    refine W.b (W.wh (wend rooms (s.2.1.length + s.2.2.length)) (fun z => z.2.length) ⟨j2, j3, j4, j5, rfl⟩ (by show s.2.2.length < 100000; omega) fun z ⟨m1, m2, m3, m4, m5⟩ hz => ?_) fun z ⟨⟨m1, m2, m3, m4, m5⟩, hz⟩ => ?_
    · obtain ⟨steps, stack⟩ := z
      simp only at m1 m2 m3 m4 m5
      have ne : stack ≠ [] := fun e => by rw [e] at hz; cases hz
      have lp : 1 ≤ stack.length := List.length_pos_iff.mpr ne
      obtain ⟨c, hc2⟩ : ∃ c, stack.getLast? = some c := ⟨_, List.getLast?_eq_some_getLast ne⟩
      unfold l_way_L2
      refine W.e hc2 ?_
      walk_at "wg"
      refine W.s ⟨⟨forS_snoc m1 (held_out hc2), ?_, fun r hr => m3 r (List.dropLast_subset _ hr), nest_snoc m4 m1 (.inr ⟨rfl, hc2⟩), ?_⟩, ?_⟩
      · intro x hx
        rcases List.mem_append.mp hx with y | y
        · exact m2 x y
        · rw [List.mem_singleton] at y
          subst y
          exact ⟨.inr rfl, m3 c (List.mem_of_getLast? hc2)⟩
      · show (steps ++ [_]).length + stack.dropLast.length = _
        simp
        omega
      · show stack.dropLast.length < stack.length
        rw [List.length_dropLast]
        omega
    · have e : z.2 = [] := by
        cases q : z.2 with
        | nil => rfl
        | cons a l => unfold l_way_L2c at hz; rw [q] at hz; cases hz
      rw [e] at m1 m5
      simp only [List.length_nil] at m5
      exact W.s ⟨j1, ⟨by show 1 ≤ z.1.length; omega, by show z.1.length ≤ 40; omega, m2, m1, m4⟩, by show z.1.length ≤ 25; omega⟩
def pairsQ : List (Str × Str) := ([(("even" : Str), ("even" : Str)), (("stand" : Str), ("bow" : Str)), (("bow" : Str), ("stand" : Str)), (("bow" : Str), ("bow" : Str)), (("stand" : Str), ("stand" : Str))] : List (Str × Str))
/-- a pair of words that two hands may have to one another -/
def OkP (p : Str × Str) : Prop := okWord p.1 ∧ okWord p.2 ∧ (p.1 = "even" ↔ p.2 = "even")
theorem pairsQ_ok : ∀ p ∈ pairsQ, OkP p := by
  intro w hw
  unfold OkP okWord
  simp only [pairsQ, List.mem_cons, List.not_mem_nil, or_false] at hw
  rcases hw with e | e | e | e | e <;> rw [e] <;> refine ⟨by simp, by simp, by decide⟩
theorem door_w {dk : Pot} {many : Int} {b : Bool} (h : dk.ok) (h1 : 1 ≤ many) (h5 : many ≤ 5) : W (l_door_m dk many b) fun p => p.2.ok ∧ GoodD many.toNat p.1 := by
  have lr : (rng 0 many).length = many.toNat := by rw [rng_length]; omega
  unfold l_door_m
  walk_at "wg"
  walk_at "wg"
  refine W.b (mixQ_w h (by omega)) fun rk ⟨d0, pr⟩ => ?_
  have lk : rk.1.length = many.toNat := by rw [pr.length_eq, lr]
  walk_at "wg"
  walk_at "wg"
  walk_at "wg"
  walk_at "wg"
  walk_at "wg"
  refine W.e rfl ?_
  walk_at "wg"
  walk_at "wg"
  have R0 : Rect many.toNat ((rng 0 many).map fun _ => List.replicate many.toNat ("-" : Str)) := by
    refine ⟨by rw [List.length_map, lr], fun r hr => ?_⟩
    obtain ⟨_, _, rfl⟩ := List.mem_map.mp hr
    exact ⟨List.length_replicate, fun w hw => .inl (List.eq_of_mem_replicate hw)⟩
  have S0 : SymE ((rng 0 many).map fun _ => List.replicate many.toNat ("-" : Str)) := by
    intro i j e
    exfalso
    unfold cellR List.getD at e
    rw [List.getElem?_map] at e
    cases q : (rng 0 many)[i]? with
    | none => rw [q] at e; change (Str.ofString "") = Str.ofString "even" at e; revert e; decide
    | some k =>
      rw [q] at e
      change ((List.replicate many.toNat (Str.ofString "-"))[j]?).getD _ = _ at e
      rw [List.getElem?_replicate] at e
      split at e
      · change (Str.ofString "-") = Str.ofString "even" at e; revert e; decide
      · change (Str.ofString "") = Str.ofString "even" at e; revert e; decide
  have D0 : ∀ i, i < many.toNat → cellR ((rng 0 many).map fun _ => List.replicate many.toNat ("-" : Str)) i i = "-" := fun i hi => by
    unfold cellR List.getD
    have hr : (rng 0 many)[i]? = some (i : Int) := by
      unfold rng
      rw [List.getElem?_map, List.getElem?_range (by omega)]
      simp
    rw [List.getElem?_map, hr]
    show ((List.replicate many.toNat (Str.ofString "-"))[i]?).getD _ = _
    rw [List.getElem?_replicate, if_pos hi] <;> rfl
  refine W.b (W.forS1 (fun s => s.1.ok ∧ Rect many.toNat s.2 ∧ SymE s.2 ∧ ∀ i, i < many.toNat → cellR s.2 i i = "-") ⟨d0, R0, S0, D0⟩ fun x hx s ⟨i1, i2, i3, i4⟩ => ?_) fun s ⟨i1, i2, i3, i4⟩ => ?_
  · have mx := mem_rng hx
    unfold l_door_L1
    walk_at "wg"
    walk_at "wg"
    refine W.b (W.forS1 (fun s => s.1.ok ∧ Rect many.toNat s.2 ∧ SymE s.2 ∧ ∀ i, i < many.toNat → cellR s.2 i i = "-") ⟨i1, i2, i3, i4⟩ fun y hy s ⟨j1, j2, j4, jd⟩ => ?_) fun q ⟨j1, j2, j3, j4⟩ => W.s ⟨j1, j2, j3, j4⟩
    have my := mem_rng hy
    unfold l_door_L2
    refine W.b (atI_W mx.1 (by omega)) fun a _ => W.b (atI_W my.1 (by omega)) fun c _ => ?_
    refine W.b (Q := fun p => p ∈ pairsQ) (W.ip (fun _ => W.e (a := (("stand" : Str), ("bow" : Str))) (by decide +kernel) (W.s (by decide +kernel))) fun _ => W.e (a := (("bow" : Str), ("stand" : Str))) (by decide +kernel) (W.s (by decide +kernel))) fun w1 q1 => ?_
    refine W.b (Q := fun p : Bool × Pot => p.2.ok) (W.i (fun _ => W.b (drawQ_tot (n := 5) j1 (by omega) (by omega)) fun p ⟨p1, _, _⟩ => W.s p1) fun _ => W.s j1) fun t ht => ?_
    refine W.b (Q := fun p => p ∈ pairsQ) (W.i (fun _ => W.e (a := (("even" : Str), ("even" : Str))) (by decide +kernel) (W.s (by decide +kernel))) fun _ => W.s q1) fun w2 q2 => ?_
    refine W.b (Q := fun p : Pot × (Str × Str) => p.1.ok ∧ p.2 ∈ pairsQ) (W.i (fun _ => W.b (pickQ_tot (xs := pairsQ) ht (by decide) (by decide)) fun p ⟨p1, p2⟩ => W.s ⟨p1, p2⟩) fun _ => W.s ⟨ht, q2⟩) fun w3 ⟨m1, q3⟩ => ?_
    have ok := pairsQ_ok _ q3
    obtain ⟨t, et, j3⟩ := setT_W j2 (by omega) (by omega) (by omega) (by omega) ok.1 (i := x) (j := y)
    refine W.e et ?_
    obtain ⟨u, eu, j5⟩ := setT_W j3 (by omega) (by omega) (by omega) (by omega) ok.2.1 (i := y) (j := x)
    refine W.e eu (W.s ⟨m1, j5, fun a b hab => ?_, fun i hi => ?_⟩)
    case' refine_2 =>
      show cellR u i i = _
      rw [setT_cell j3 (by omega) (by omega) (by omega) (by omega) eu, setT_cell j2 (by omega) (by omega) (by omega) (by omega) et, if_neg (by omega), if_neg (by omega)]
      exact jd i hi
    have c1 := setT_cell j2 (by omega) (by omega) (by omega) (by omega) et
    have c2 := setT_cell j3 (by omega) (by omega) (by omega) (by omega) eu
    change cellR u a b = _ at hab
    show cellR u b a = _
    rw [c2, c1] at hab ⊢
    have ne : x.toNat ≠ y.toNat := by omega
    by_cases h1 : a = y.toNat ∧ b = x.toNat
    · rw [if_pos h1] at hab
      rw [if_neg (by omega), if_pos ⟨h1.2, h1.1⟩]
      exact ok.2.2.mpr hab
    · rw [if_neg h1] at hab
      by_cases h2 : a = x.toNat ∧ b = y.toNat
      · rw [if_pos h2] at hab
        rw [if_pos ⟨h2.2, h2.1⟩]
        exact ok.2.2.mp hab
      · rw [if_neg h2] at hab
        rw [if_neg (by omega), if_neg (by omega)]
        exact j4 a b hab
  · have R2 := i2.1
    walk_at "wg"
    walk_at "wg"
    refine W.b (W.forS (fun zs (s : Pot × List (List Int)) => s.1.ok ∧ s.2.length = zs.length ∧ ∀ (k : Nat) o, s.2[k]? = some o → o.Perm (others many.toNat k)) ⟨i1, rfl, fun k o z => by simp at z⟩ fun zs x s ⟨r, e⟩ ⟨q1, q2, q3⟩ => ?_) fun q ⟨q1, q2, q3⟩ => ?_
    · have ln := congrArg List.length e
      rw [lr] at ln
      simp at ln
      have ex := rng_split e
      unfold l_door_L3
      walk_at "wg"
      walk_at "wg"
      walk_at "wg"
      refine W.e (lcM_filterU (g := fun x => x)) ?_
      simp only [List.map_id']
      refine W.b (mixQ_w q1 (Nat.le_trans (List.length_filter_le _ _) (by omega))) fun m ⟨m1, m2⟩ => ?_
      walk_at "wg"
      refine W.s ⟨m1, by simp [q2], fun k o z => ?_⟩
      rcases Nat.lt_or_ge k s.2.length with l | l
      · rw [List.getElem?_append_left l] at z
        exact q3 k o z
      · rw [List.getElem?_append_right l] at z
        have e2 : k - s.2.length = 0 := by
          cases w : k - s.2.length with
          | zero => rfl
          | succ n => rw [w] at z; simp at z
        rw [e2] at z
        simp at z
        subst z
        unfold others
        rw [show ((many.toNat : Nat) : Int) = many by omega, show ((k : Nat) : Int) = x by omega]
        exact m2
    · walk_at "wg"
      refine W.e lcM_mapU ?_
      rw [List.map_id']
      refine W.s ⟨q1, i2, i3, by show q.2.length = _; rw [q2, lr], q3, i4⟩
theorem lcM_draw {α β : Type} {f : Pot → α → Option (Pot × Option β)} {P : β → Prop} {xs : List α} {s : Pot} (h0 : s.ok) (st : ∀ x ∈ xs, ∀ s : Pot, s.ok → W (f s x) fun p => p.1.ok ∧ ∀ y, p.2 = some y → P y) : W (RL.lcM f s xs) fun q => q.1.ok ∧ q.2.length ≤ xs.length ∧ ∀ y ∈ q.2, P y := by
  induction xs generalizing s with
  | nil => exact ⟨_, rfl, h0, Nat.le_refl _, fun y hy => nomatch hy⟩
  | cons x xs ih =>
    unfold RL.lcM
    refine W.b (st x (by simp) s h0) fun p ⟨i1, i2⟩ => W.b (ih i1 fun z hz => st z (by simp [hz])) fun q ⟨j1, j2, j3⟩ => ⟨_, rfl, j1, ?_, ?_⟩
    · cases p.2 with
      | none => show q.2.length ≤ _; simp; omega
      | some y => show (y :: q.2).length ≤ _; simp; omega
    · cases e : p.2 with
      | none => exact j3
      | some y =>
        intro z hz
        rcases List.mem_cons.mp hz with w | w
        · rw [w]; exact i2 y e
        · exact j3 z w
theorem house_w {dk : Pot} {many rooms size : Int} {k1 k2 : Bool} {k3 : Int} (h : dk.ok) (h1 : 1 ≤ many) (h5 : many ≤ 5) (r1 : 1 ≤ rooms) (r6 : rooms ≤ 6) (m1 : 2 ≤ size) (m2 : size ≤ 24) : W (l_house_m dk many rooms size (k1, k2, k3)) fun p => p.2.ok ∧ GoodH many rooms p.1 ∧ ∀ w ∈ p.1.2, w.length ≤ 25 := by
  have lr : (rng 0 rooms).length = rooms.toNat := by rw [rng_length]; omega
  have lh : (rng 0 many).length = many.toNat := by rw [rng_length]; omega
  unfold l_house_m
  walk_at "wg"
  walk_at "wg"
  refine W.b (W.forS (fun zs s => s.1.ok ∧ s.2.length = zs.length ∧ ∀ o ∈ s.2, ∀ d, o = some d → GoodD many.toNat d) ⟨h, rfl, fun o ho => nomatch ho⟩ fun zs x s ⟨r, e⟩ ⟨i1, i2, i3⟩ => ?_) fun s ⟨i1, i2, i3⟩ => ?_
  · have ln := congrArg List.length e
    rw [lr] at ln
    simp at ln
    unfold l_house_L1
    refine W.b (drawQ_tot (n := 6) i1 (by omega) (by omega)) fun p ⟨p1, _, _⟩ => ?_
    refine W.b (Q := fun q : Option Door × Pot => q.2.ok ∧ ∀ d, q.1 = some d → GoodD many.toNat d) (W.i (fun _ => ?_) fun _ => W.s ⟨p1, fun d z => nomatch z⟩) fun q ⟨q1, q2⟩ => ?_
    · exact W.b (door_w p1 h1 h5) fun p ⟨p1, p2⟩ => W.s ⟨p1, fun d z => by cases z; exact p2⟩
    walk_at "wg"
    refine W.s ⟨q1, by simp [i2], fun o ho d hd => ?_⟩
    rcases List.mem_append.mp ho with z | z
    · exact i3 o z d hd
    · rw [List.mem_singleton] at z
      subst z
      exact q2 d hd
  · walk_at "wg"
    walk_at "wg"
    refine W.b (W.forS (fun zs (s : Pot × List Way) => s.1.ok ∧ s.2.length = zs.length ∧ ∀ w ∈ s.2, GoodW rooms w ∧ w.length ≤ 25) ⟨i1, rfl, fun o ho => nomatch ho⟩ fun zs x s ⟨r, e⟩ ⟨j1, j2, j3⟩ => ?_) fun q ⟨q1, q2, q3⟩ => W.s ⟨q1, ⟨h1, h5, r1, r6, ?_, ?_, i3, fun w hw => (q3 w hw).1⟩, fun w hw => (q3 w hw).2⟩
    · have ln := congrArg List.length e
      rw [lh] at ln
      simp at ln
      unfold l_house_L2
      refine W.b (drawQ_tot (n := size / 2) j1 (by omega) (by omega)) fun p ⟨p1, p2, p3⟩ => ?_
      walk_at "wg"
      walk_at "wg"
      walk_at "wg"
      refine W.b (lcM_draw (P := fun r : Int => 0 ≤ r ∧ r < rooms) p1 fun c hc s hs => ?_) fun m ⟨n1, n2, n3⟩ => ?_
      · have mc := mem_rng hc
        refine W.b (Q := fun t : Bool × Pot => t.2.ok) (W.b (drawQ_tot (n := 3) hs (by omega) (by omega)) fun p ⟨p1, _, _⟩ => W.s p1) fun t ht => ?_
        exact W.i (fun _ => W.s ⟨ht, fun y e => by cases e; exact ⟨by omega, by omega⟩⟩) fun _ => W.s ⟨ht, fun y e => by cases e⟩
      refine W.b (Q := fun t : List Int × Pot => t.2.ok ∧ t.1 ≠ [] ∧ t.1.length ≤ 6 ∧ ∀ r ∈ t.1, 0 ≤ r ∧ r < rooms) (W.i (fun hm => ?_) fun _ => ?_) fun t ⟨t1, t2, t3, t4⟩ => ?_
      · refine W.s ⟨n1, fun z => ?_, by show m.2.length ≤ 6; omega, n3⟩
        rw [show m.2 = [] from z] at hm
        cases hm
      · refine W.b (drawQ_tot (n := rooms) n1 (by omega) (by omega)) fun p ⟨p1, p2, p3⟩ => W.s ⟨p1, by simp, by simp, fun r hr => ?_⟩
        rw [List.mem_singleton] at hr
        subst hr
        exact ⟨p2, p3⟩
      refine W.b (way_w (rooms := rooms) (by omega) (by omega) t1 t4 t2 t3) fun v ⟨v1, v2, v3⟩ => ?_
      walk_at "wg"
      refine W.s ⟨v1, by simp [j2], fun w hw => ?_⟩
      rcases List.mem_append.mp hw with z | z
      · exact j3 w z
      · rw [List.mem_singleton] at z
        subst z
        exact ⟨v2, v3⟩
    · show ((s.2.length : Nat) : Int) = rooms
      rw [i2, lr]; omega
    · show ((q.2.length : Nat) : Int) = many
      rw [q2, lh]; omega
end LW


set_option maxHeartbeats 1000000
namespace LW
open PySem L2 RL
/-! ### plain: what repr shows of a drawn house; steps sought in ways -/
theorem others_len : ∀ (n : Fin 6) (k : Fin 6), k.1 < n.1 → (others n.1 k.1).length + 1 = n.1 := by decide
theorem GoodD.order {n : Nat} {d : Door} (g : GoodD n d) (n5 : n ≤ 5) {k : Nat} (hk : k < n) : ∃ o, d.2[k]? = some o ∧ o.length + 1 = n ∧ ∀ j ∈ o, 0 ≤ j ∧ j < n ∧ j ≠ k := by
  have l : k < d.2.length := by rw [g.ol]; exact hk
  refine ⟨_, List.getElem?_eq_getElem l, ?_, fun j hj => ?_⟩
  · rw [(g.ord k _ (List.getElem?_eq_getElem l)).length_eq]
    exact others_len ⟨n, by omega⟩ ⟨k, by omega⟩ hk
  · have z := (g.ord k _ (List.getElem?_eq_getElem l)).mem_iff.mp hj
    unfold others at z
    obtain ⟨z1, z2⟩ := List.mem_filter.mp z
    have := mem_rng z1
    simp at z2
    omega
/-- all that is known of a hand at a door -/
abbrev encH : House → D := eT2 (eTL (eO (eT2 (eTL (eTL D.str)) (eTL (eTL D.int))))) (eTL (eTL (eT2 D.str D.int)))
theorem fn_word {k : Nat} {w : Str} (h : okWord w) : FN k 5 (.str w) := by
  rcases h with e | e | e | e <;> rw [e] <;> exact fn_str (by decide +kernel) (by decide)
section
variable {hs rs : Int} {h : House} {d : Door}
theorem fn_way {way : Way} (g : GoodW rs way) (r6 : rs ≤ 6) : FN 2 360 (eTL (eT2 D.str D.int) way) := by
  refine fn_mono (fn_tup (k := 1) (n := 8) (m := 40) (fn_map fun x hx => ?_) (by rw [List.length_map]; exact g.len)) (by omega) (by omega)
  obtain ⟨h1, h2, h3⟩ := g.all x hx
  refine fn_mono (fn_tup (k := 0) (n := 3) (m := 2) (fn_two ?_ (fn_int (by omega))) (by simp)) (by omega) (by omega)
  rcases h1 with e | e <;> rw [e] <;> exact fn_str (by decide +kernel) (by decide)
theorem fn_door {n : Nat} (n5 : n ≤ 5) (g : GoodD n d) : FN 3 312 (eT2 (eTL (eTL D.str)) (eTL (eTL D.int)) d) := by
  refine fn_mono (fn_tup (k := 2) (n := 155) (m := 2) (fn_two ?_ ?_) (by simp)) (by omega) (by omega)
  · refine fn_mono (fn_tup (k := 1) (n := 30) (m := 5) (fn_map fun r hr => ?_) (by rw [List.length_map, g.rect.1]; exact n5)) (by omega) (by omega)
    obtain ⟨r1, r2⟩ := g.rect.2 r hr
    exact fn_mono (fn_tup (k := 0) (n := 5) (m := 5) (fn_map fun w hw => fn_word (r2 w hw)) (by rw [List.length_map, r1]; exact n5)) (by omega) (by omega)
  · refine fn_mono (fn_tup (k := 1) (n := 5) (m := 5) (fn_map fun r hr => ?_) (by rw [List.length_map, g.ol]; exact n5)) (by omega) (by omega)
    obtain ⟨i, hi⟩ := List.getElem?_of_mem hr
    have l := (List.getElem?_eq_some_iff.mp hi).1
    rw [g.ol] at l
    obtain ⟨o, ho, lo, mo⟩ := g.order n5 l
    rw [hi] at ho
    cases ho
    exact fn_mono (fn_tup (k := 0) (n := 0) (m := 5) (fn_map fun j hj => fn_int (by have := mo j hj; omega)) (by rw [List.length_map]; omega)) (by omega) (by omega)
theorem fn_house (g : GoodH hs rs h) : FN 5 3758 (encH h) := by
  have g5 := g.h5
  have r6 := g.r6
  have lr := g.lr
  have lh := g.lh
  refine fn_mono (fn_tup (k := 4) (n := 1878) (m := 2) (fn_two ?_ ?_) (by simp)) (by omega) (by omega)
  · refine fn_mono (fn_tup (k := 3) (n := 312) (m := 6) (fn_map fun o ho => ?_) (by rw [List.length_map]; omega)) (by omega) (by omega)
    cases o with
    | none => exact fn_non
    | some d => exact fn_door (by omega) (g.dr _ ho d rfl)
  · exact fn_mono (fn_tup (k := 2) (n := 360) (m := 5) (fn_map fun w hw => fn_way (g.wy w hw) r6) (by rw [List.length_map]; omega)) (by omega) (by omega)
end
end LW


set_option maxHeartbeats 1000000
namespace LW
open PySem L2 RL
/-! ### plain: any value, asked whether it is numbers or a round -/
local macro_rules | `(tactic| walk_at "wg") => `(tactic| first
  | refine W.g (by omega) ?_
  | refine W.g (by (first | with_reducible refine bigl ?_ | with_reducible refine big ?_); (try simp only [len_numL, rng_length, List.length_append, List.length_map, List.length_cons, List.length_nil, List.length_replicate, List.length_zip]); omega) ?_)
mutual
theorem q_of_ok : ∀ {d : D}, d.ok = true → d.q = d.p ∧ d.rdy = true
  | .non, _ => by unfold D.q D.p D.rdy; exact ⟨rfl, rfl⟩
  | .bl _, _ => by unfold D.q D.p D.rdy; exact ⟨rfl, rfl⟩
  | .int _, _ => by unfold D.q D.p D.rdy; exact ⟨rfl, rfl⟩
  | .str s, h => by unfold D.ok at h; unfold D.q D.p D.rdy; exact ⟨rfl, h⟩
  | .tup l, h => by
    unfold D.ok at h
    obtain ⟨a, b⟩ := qs_of_ok h
    unfold D.q D.p D.rdy
    rw [a]
    exact ⟨rfl, b⟩
  | .lst l, h => by
    unfold D.ok at h
    obtain ⟨a, b⟩ := qs_of_ok h
    unfold D.q D.p D.rdy
    rw [a]
    exact ⟨rfl, b⟩
  | .dct _, h => by unfold D.ok at h; cases h
  | .ty _, h => by unfold D.ok at h; cases h
  | .tpw _, h => by unfold D.ok at h; cases h
theorem qs_of_ok : ∀ {l : List D}, oks l = true → qs l = ps l ∧ rdys l = true
  | [], _ => by unfold qs ps rdys; exact ⟨rfl, rfl⟩
  | d :: l, h => by
    unfold oks at h
    rw [Bool.and_eq_true] at h
    obtain ⟨a, b⟩ := q_of_ok h.1
    obtain ⟨c, e⟩ := qs_of_ok h.2
    unfold qs ps rdys
    rw [a, c, b, e]
    exact ⟨rfl, rfl⟩
end
theorem fx_fn {k n : Nat} {d : D} (h : FN k n d) : FX k n d := by
  obtain ⟨h1, h2, h3, h4, h5, h6⟩ := h
  obtain ⟨a, b⟩ := q_of_ok h1
  unfold FX okX blk
  rw [a]
  exact ⟨⟨b, h2, h4, h5⟩, h6⟩
end LW

set_option maxHeartbeats 1000000
namespace LW
open PySem L2 RL
/-! ### plain: houses with a gate -/
local macro_rules | `(tactic| walk_at "wg") => `(tactic| first
  | refine W.g (by omega) ?_
  | refine W.g (by (first | with_reducible refine bigl ?_ | with_reducible refine big ?_); (try simp only [len_numL, rng_length, List.length_append, List.length_map, List.length_cons, List.length_nil, List.length_replicate, List.length_zip]); omega) ?_)
section
variable {hs rs : Int} {h : House} {sm : List Int}
/-- a way with the gate's room around it -/
def roundW (last : Int) (w : Way) : Way := ([(("in" : Str), last)] : Way) ++ w ++ ([(("out" : Str), last)] : Way)
def gateW (sm : List Int) (last : Int) (x : Int × Way) : Way := if decide (x.1 ∈ sm) = true then roundW last x.2 else x.2
def gateP (h : House) (sm : List Int) : House := (h.1 ++ ([none] : List (Option Door)), (numL h.2).map (gateW sm (h.1.length : Int)))
/-- the hand's way has more than n steps -/
def longP (h : House) (n : Int) (a : Int) : Bool := decide (n < ((h.2.getD a.toNat []).length : Int))
theorem long_eq (g : GoodH hs rs h) (ha : ∀ a ∈ sm, 0 ≤ a ∧ a < hs) {n : Int} : RL.lcM (fun (_ : Unit) (c : Int) => (((atI (h.2) c).bind fun p => some (decide (n < ((p).length : Int)))).bind fun tq => if tq = true then (some ((), some c)) else some ((), none))) () sm = some ((), sm.filter (longP h n)) := by
  have lh := g.lh
  have e : ∀ x ∈ sm, (atI (h.2) x).bind (fun p => some (decide (n < ((p).length : Int)))) = some (longP h n x) := fun x hx => by
    obtain ⟨h0, h1⟩ := ha x hx
    rw [atI_some h0 (get_some [] (by omega))]
    rfl
  rw [W.lcP (g := fun x => x) (fun x hx => ⟨_, e x hx⟩), List.map_id']
  refine congrArg some (congrArg (Prod.mk ()) (List.filter_congr fun x hx => ?_))
  rw [e x hx] <;> rfl
theorem gate_loop {f : List Way → Int × Way → Option (List Way)} {last : Int} (hf : ∀ (s : List Way) (x : Int × Way), s.length ≤ 1000 → x.2.length ≤ 1000 → f s x = some (s ++ [gateW sm last x])) {l : List (Int × Way)} (hl : l.length ≤ 900) (hw : ∀ x ∈ l, x.2.length ≤ 1000) : forS f [] l = some (l.map (gateW sm last)) := by
  have key : ∀ (l : List (Int × Way)) (s : List Way), s.length + l.length ≤ 1000 → (∀ x ∈ l, x.2.length ≤ 1000) → forS f s l = some (s ++ l.map (gateW sm last)) := by
    intro l
    induction l with
    | nil => intro s _ _; simp [forS]
    | cons x l ih =>
      intro s hs hx
      unfold forS
      rw [hf s x (by simp at hs; omega) (hx x (by simp))]
      show forS f (s ++ [gateW sm last x]) l = _
      rw [ih _ (by simp at hs ⊢; omega) fun y hy => hx y (by simp [hy])]
      simp
  have := key l [] (by simp; omega) hw
  simpa using this
theorem gate_step {last : Int} (s : List Way) (x : Int × Way) (hs : s.length ≤ 1000) (hx : x.2.length ≤ 1000) : gated_L1 sm last s x = some (s ++ [gateW sm last x]) := W.eq (by
  unfold gated_L1
  refine W.b (Q := fun y => y = gateW sm last x) (W.i (fun z => ?_) fun z => W.s (by unfold gateW; rw [if_neg (by rw [z]; decide)])) fun y hy => ?_
  · walk_at "wg"
    walk_at "wg"
    exact W.s (by unfold gateW roundW; rw [if_pos z])
  · subst hy
    walk_at "wg"
    exact W.s rfl)
theorem l_gate_step {r : List (Option Door)} (s : List Way) (x : Int × Way) (hs : s.length ≤ 1000) (hx : x.2.length ≤ 1000) : l_gated_L1 sm r s x = some (s ++ [gateW sm (r.length : Int) x]) := W.eq (by
  unfold l_gated_L1
  refine W.b (Q := fun y => y = gateW sm (r.length : Int) x) (W.i (fun z => ?_) fun z => W.s (by unfold gateW; rw [if_neg (by rw [z]; decide)])) fun y hy => ?_
  · walk_at "wg"
    walk_at "wg"
    exact W.s (by unfold gateW roundW; rw [if_pos z])
  · subst hy
    walk_at "wg"
    exact W.s rfl)
theorem numL_ways (g : GoodH hs rs h) : (numL h.2).length ≤ 900 ∧ ∀ x ∈ numL h.2, x.2.length ≤ 1000 := by
  have lh := g.lh
  have h5 := g.h5
  refine ⟨by rw [len_numL]; omega, fun x hx => ?_⟩
  obtain ⟨i, _, hi⟩ := mem_numL hx
  have := (g.wy _ (List.mem_of_getElem? hi)).len
  omega
theorem l_gated_eq (g : GoodH hs rs h) : l_gated_m h sm = some (gateP h sm) := W.eq (by
  have lr := g.lr
  have r6 := g.r6
  obtain ⟨n1, n2⟩ := numL_ways g
  unfold l_gated_m
  refine W.e (gate_loop (l := numL h.2) (last := (h.1.length : Int)) (fun s x => l_gate_step s x) n1 n2) ?_
  walk_at "wg"
  exact W.s rfl)
/-- there is no gate -/
def badP (h : House) (sm : List Int) : Bool := decide ((h.1.length : Int) = 6) || !(sm.filter (longP h 22)).isEmpty
theorem gated_eq (g : GoodH hs rs h) (ha : ∀ a ∈ sm, 0 ≤ a ∧ a < hs) (hl : sm.length ≤ 1000) : gated_m h sm = some (if badP h sm = true then .error ⟨"Unfit", none⟩ else .ok (gateP h sm)) := W.eq (by
  have lr := g.lr
  have r6 := g.r6
  obtain ⟨n1, n2⟩ := numL_ways g
  unfold gated_m
  refine W.b (Q := fun b => b = badP h sm) (W.i (fun z => W.s (by unfold badP; rw [z]; rfl)) fun z => ?_) fun b hb => ?_
  · walk_at "wg"
    exact W.e (long_eq (n := 24 - 2) g ha) (W.s (by unfold badP; rw [z]; rfl))
  · subst hb
    refine W.i (fun z => W.s (by rw [if_pos z])) fun z => ?_
    refine W.e (gate_loop (l := numL h.2) (last := (h.1.length : Int)) (fun s x => gate_step s x) n1 n2) ?_
    walk_at "wg"
    exact W.s (by rw [if_neg (by rw [z]; decide)]; rfl))
/-- what the law calls due -/
def dueP (h : House) (sm : List Int) : List D := if badP h sm = true then [.str "unfit", .bl true, .bl false] else [.str "told", eHouse (gateP h sm)]
theorem heard_eq (h : House) (sm : List Int) : l_heard_m (xmd (fun (r : tHouse) => (eHouse r)) (if badP h sm = true then .error ⟨"Unfit", none⟩ else .ok (gateP h sm))) = some (dueP h sm) := by
  unfold dueP
  cases badP h sm with
  | true => rfl
  | false => rfl
theorem round_ok {w : Way} (g : GoodW rs w) (r6 : rs ≤ 6) {last : Int} (l0 : 0 ≤ last) (l7 : last < 7) : (roundW last w).length ≤ 42 ∧ ∀ s ∈ roundW last w, okS 7 s := by
  have := g.len
  refine ⟨by unfold roundW; simp; omega, fun s hs => ?_⟩
  unfold roundW at hs
  simp only [List.mem_append, List.mem_singleton] at hs
  rcases hs with (z | z) | z
  · rw [z]; exact ⟨.inl rfl, l0, l7⟩
  · obtain ⟨a, b, c⟩ := g.all s z
    exact ⟨a, b, by omega⟩
  · rw [z]; exact ⟨.inr rfl, l0, l7⟩
theorem fn_wayL {w : Way} (hl : w.length ≤ 42) (ha : ∀ s ∈ w, okS 7 s) : FN 2 378 (eTL (eT2 D.str D.int) w) := by
  refine fn_mono (fn_tup (k := 1) (n := 8) (m := 42) (fn_map fun x hx => ?_) (by rw [List.length_map]; exact hl)) (by omega) (by omega)
  obtain ⟨h1, h2, h3⟩ := ha x hx
  refine fn_mono (fn_tup (k := 0) (n := 3) (m := 2) (fn_two ?_ (fn_int (by omega))) (by simp)) (by omega) (by omega)
  rcases h1 with e | e <;> rw [e] <;> exact fn_str (by decide +kernel) (by decide)
theorem fn_gate (g : GoodH hs rs h) : FN 5 4400 (encH (gateP h sm)) := by
  have g5 := g.h5
  have r6 := g.r6
  have r1 := g.r1
  have lr := g.lr
  have lh := g.lh
  refine fn_mono (fn_tup (k := 4) (n := 2195) (m := 2) (fn_two ?_ ?_) (by simp)) (by omega) (by omega)
  · refine fn_mono (fn_tup (k := 3) (n := 312) (m := 7) (fn_map fun o ho => ?_) (by rw [List.length_map]; unfold gateP; simp; omega)) (by omega) (by omega)
    rcases List.mem_append.mp (show o ∈ h.1 ++ ([none] : List (Option Door)) from ho) with z | z
    · cases o with
      | none => exact fn_non
      | some d => exact fn_door (by omega) (g.dr _ z d rfl)
    · rw [List.mem_singleton] at z
      subst z
      exact fn_non
  · refine fn_mono (fn_tup (k := 2) (n := 378) (m := 5) (fn_map fun w hw => ?_) (by rw [List.length_map]; unfold gateP; simp [len_numL]; omega)) (by omega) (by omega)
    obtain ⟨x, hx, rfl⟩ := List.mem_map.mp (show w ∈ (numL h.2).map (gateW sm (h.1.length : Int)) from hw)
    obtain ⟨i, _, hi⟩ := mem_numL hx
    have gw := g.wy _ (List.mem_of_getElem? hi)
    unfold gateW
    split
    · obtain ⟨a, b⟩ := round_ok gw r6 (last := (h.1.length : Int)) (by omega) (by omega)
      exact fn_wayL a b
    · exact fn_wayL (by have := gw.len; omega) fun s hs => by
        obtain ⟨a, b, c⟩ := gw.all s hs
        exact ⟨a, b, by omega⟩
theorem due_shown (g : GoodH hs rs h) : ∃ s, shXX (D.lst ((dueP h sm).map eX)) = some s := by
  have f1 : ∀ x : Str, x = "unfit" ∨ x = "told" → FN 5 4400 (D.str x) := fun x hx => by
    rcases hx with e | e <;> rw [e] <;> exact fn_str (by decide +kernel) (by decide)
  unfold dueP
  split
  · exact shXX_ok (fx_fn (fn_lst (k := 5) (n := 4400) (m := 3) (l := [D.str "unfit", .bl true, .bl false]) (fun d hd => by
      simp only [List.mem_cons, List.not_mem_nil, or_false] at hd
      rcases hd with e | e | e <;> subst e
      · exact f1 _ (.inl rfl)
      · exact fn_bl
      · exact fn_bl) (by simp))) (by omega) (by omega)
  · exact shXX_ok (fx_fn (fn_lst (k := 5) (n := 4400) (m := 3) (l := [D.str "told", eHouse (gateP h sm)]) (fn_two (f1 _ (.inr rfl)) (fn_gate g)) (by simp))) (by omega) (by omega)
theorem same_shown (g : GoodH hs rs h) (ha : ∀ a ∈ sm, 0 ≤ a ∧ a < hs) (hl : sm.length ≤ 1000) : ∃ s, shDD ((eF2 eHouse (eTL D.int)) (h, sm)) = some s := by
  have h5 := g.h5
  refine shDD_fn (k := 6) (n := 7520) (d := D.lst [eHouse h, eTL D.int sm]) ?_ (by omega) (by omega)
  refine fn_mono (fn_lst (k := 5) (n := 3758) (m := 2) (fn_two (fn_house g) ?_) (by simp)) (by omega) (by omega)
  exact fn_mono (fn_tup (k := 0) (n := 0) (m := 1000) (fn_map fun a hx => fn_int (by have := ha a hx; omega)) (by rw [List.length_map]; exact hl)) (by omega) (by omega)
end
theorem lcM_drawN {α β : Type} {f : Pot → α → Option (Pot × Option β)} {P : β → Prop} {xs : List α} {s : Pot} (h0 : s.ok) (st : ∀ x ∈ xs, ∀ s : Pot, s.ok → W (f s x) fun p => p.1.ok ∧ ∃ y, p.2 = some y ∧ P y) : W (RL.lcM f s xs) fun q => q.1.ok ∧ q.2.length = xs.length ∧ ∀ y ∈ q.2, P y := by
  induction xs generalizing s with
  | nil => exact ⟨_, rfl, h0, rfl, fun y hy => nomatch hy⟩
  | cons x xs ih =>
    unfold RL.lcM
    refine W.b (st x (by simp) s h0) fun p ⟨i1, y0, e0, i2⟩ => W.b (ih i1 fun z hz => st z (by simp [hz])) fun q ⟨j1, j2, j3⟩ => ⟨_, rfl, j1, ?_, ?_⟩
    · rw [e0]
      show (y0 :: q.2).length = _
      simp [j2]
    · rw [e0]
      intro z hz
      rcases List.mem_cons.mp hz with w | w
      · rw [w]; exact i2
      · exact j3 z w
theorem law_true (ns : List Int) (hn : ns.length ≤ 63) : law_m ns = some true := W.eq (by
  unfold law_m
  refine W.b pot_w fun pot hp => ?_
  refine W.b (W.forOn (fun d => d.ok) hp fun x hx s hd => ?_) fun o ⟨s, e, _⟩ => by subst e; exact W.s rfl
  have x3 := mem_rng hx
  unfold law_L1
  refine W.b (drawQ_tot (n := 5) hd (by omega) (by omega)) fun a ⟨a1, a2, a3⟩ => ?_
  refine W.b (pickQ_tot a1 (by simp) (by simp)) fun r ⟨b1, b2⟩ => ?_
  have rr : 1 ≤ r.1 ∧ r.1 ≤ 6 := by
    have key : ∀ p ∈ ([1, 2, 3, 4, 5, 5, 6] : List Int), 1 ≤ p ∧ p ≤ 6 := by decide
    exact key _ b2
  refine W.b (drawQ_tot (n := 4) b1 (by omega) (by omega)) fun c ⟨c1, c2, c3⟩ => ?_
  refine W.b (house_w (many := 1 + a.1) (rooms := r.1) c1 (by omega) (by omega) rr.1 rr.2 (by omega) (by omega)) fun p ⟨p1, g0, _⟩ => ?_
  refine W.b (Q := fun t : Pot × House => t.1.ok ∧ GoodH (1 + a.1) r.1 t.2) (W.i (fun _ => ?_) fun _ => W.s ⟨p1, g0⟩) fun t ⟨t1, g⟩ => ?_
  · walk_at "wg"
    walk_at "wg"
    walk_at "wg"
    refine W.b (lcM_drawN (P := fun y : Int => 1 ≤ y ∧ y ≤ 24) p1 fun x hx s hs => ?_) fun q ⟨q1, q2, q3⟩ => ?_
    · refine W.b (pickQ_tot hs (by simp) (by simp)) fun u ⟨u1, u2⟩ => W.s ⟨u1, u.1, rfl, ?_⟩
      have key : ∀ p ∈ ([2, 20, 22, 22, 24] : List Int), 1 ≤ p ∧ p ≤ 24 := by decide
      exact key _ u2
    have ql : q.2.length = (1 + a.1).toNat := by rw [q2, rng_length]; omega
    walk_at "wg"
    refine W.b (lcM_drawN (P := fun w : Way => GoodW r.1 w) q1 fun x hx s hs => ?_) fun q' ⟨q1', q2', q3'⟩ => W.s ⟨q1', ?_⟩
    · have := q3 x hx
      walk_at "wg"
      walk_at "wg"
      refine W.b (way_w (rooms := r.1) this.1 this.2 hs (fun y hy => mem_rng hy) (by intro z; have := congrArg List.length z; rw [rng_length] at this; simp at this; omega) (by rw [rng_length]; omega)) fun v ⟨v1, v2, _⟩ => W.s ⟨v1, v.1, rfl, v2⟩
    · exact ⟨g0.h1, g0.h5, g0.r1, g0.r6, g0.lr, by show ((q'.2.length : Nat) : Int) = _; omega, g0.dr, q3'⟩
  · walk_at "wg"
    walk_at "wg"
    walk_at "wg"
    refine W.b (lcM_draw (P := fun y : Int => 0 ≤ y ∧ y < 1 + a.1) t1 fun y hy s hs => ?_) fun row ⟨w1, w2, w3⟩ => ?_
    · refine W.b (Q := fun z : Bool × Pot => z.2.ok) (W.b (drawQ_tot (n := 2) hs (by omega) (by omega)) fun u ⟨u1, _, _⟩ => W.s u1) fun u hu => W.i (fun _ => W.s ⟨hu, fun z e => ?_⟩) fun _ => W.s ⟨hu, fun z e => nomatch e⟩
      cases e
      exact mem_rng hy
    have lrow : row.2.length ≤ 5 := by rw [rng_length] at w2; omega
    walk_at "wg"
    walk_at "wg"
    refine W.b (pickQ_tot w1 (by simp) (by simp)) fun sm ⟨s1, s2⟩ => ?_
    have hsm : (∀ y ∈ sm.1, 0 ≤ y ∧ y < 1 + a.1) ∧ sm.1.length ≤ 1000 := by
      have key : sm.1 = row.2 ∨ sm.1 = rng 0 (1 + a.1) ∨ sm.1 = [] := by
        simp only [List.mem_cons, List.not_mem_nil, or_false] at s2
        rcases s2 with e | e | e | e | e
        · exact .inl e
        · exact .inl e
        · exact .inl e
        · exact .inr (.inl e)
        · exact .inr (.inr e)
      rcases key with e | e | e <;> rw [e]
      · exact ⟨w3, by omega⟩
      · exact ⟨fun y hy => mem_rng hy, by rw [rng_length]; omega⟩
      · exact ⟨(fun y hy => nomatch hy), by simp⟩
    obtain ⟨ha, hl⟩ := hsm
    obtain ⟨same, hsame⟩ := same_shown g ha hl
    refine W.e hsame (W.e (l_gated_eq g) ?_)
    have lr := g.lr
    refine W.b (Q := fun b => b = badP t.2 sm.1) (W.i (fun z => W.s (by unfold badP; rw [lr, z]; rfl)) fun z => ?_) fun b hb => ?_
    · walk_at "wg"
      exact W.e (long_eq (n := 22) g ha) (W.s (by unfold badP; rw [lr, z]; rfl))
    subst hb
    refine W.b (Q := fun d => d = dueP t.2 sm.1) (W.i (fun z => W.s (by unfold dueP; rw [if_pos z])) fun z => W.s (by unfold dueP; rw [if_neg (by rw [z]; decide)])) fun d hd => ?_
    subst hd
    have eg := gated_eq g ha hl
    have eh := heard_eq t.2 sm.1
    refine W.b (Q := fun o => o = dueP t.2 sm.1) (W.i (fun _ => W.e eg (W.e eh (W.s rfl))) fun _ => W.e eg (W.e eh (W.s rfl))) fun o ho => ?_
    subst ho
    obtain ⟨sd, hsd⟩ := due_shown (sm := sm.1) g
    refine W.e hsd (W.e hsd ?_)
    refine W.b (Q := fun b => b = false) (W.i (fun z => by simp at z) fun _ => W.e hsame (W.s (by simp))) fun b hb => ?_
    subst hb
    refine W.i (fun z => by cases z) fun _ => ?_
    refine W.b (Q := fun b => b = false) (W.i (fun _ => W.e eg (W.e eh (W.e hsd (W.e hsd (W.s (by simp)))))) fun _ => W.s rfl) fun b hb => ?_
    subst hb
    exact W.i (fun z => by cases z) fun _ => W.s ⟨_, rfl, s1⟩)
end LW

set_option maxHeartbeats 0
namespace LW
open PySem PySem.Spec PyProof.Rows L2 RL
theorem ob_eq (s : PySem.W.SharedT) : ob s = hk.obs s.abs := obsL_eq (HandSHeadRun.getT_eq s)
theorem facts {P : Program} {w : World} {K : PySem.W.Frag} {h : Heap} {mg : Str → Option Value} {f : Addr} (X : K.In h) (G : h.Ns mainGlobals mg) (hfa : mg ("law" : Str) = some (.ref f)) (czL : SaysL zz iz tf fa fn h K) (hP : P.main.file = "/claim/cut.py") (hT : (P.main.scope.names.lookup ("super" : Str)).isSome = false) :
    ∃ fd : FuncData, (∀ (s : Shared) (v : Value), BindsTo s fd ⟨[v], []⟩ [("script", v)]) ∧ ∀ base : Heap, K.In base → base.Ns mainGlobals mg → LamX.TabB base mg (He.cT K ("law", none)).1 (He.cT K ("law", none)).2 → FnG P w K mg base 5 f fd ["script"] (spT K (He.cT K ("law", none)).2 1 (lawRelT 63 law_m)) := by
  have czS : SaysSI zz iz fa fn K := czL.s
  have cz : SaysZ zz fa fn K := czS.y
  have c : He.SaysD fa fn K := cz.d
  obtain ⟨fd_gated, F_gated⟩ := c.def_ 0 (d := d_gated) rfl
  obtain ⟨fd_l_pot, F_l_pot⟩ := c.def_ 1 (d := d_l_pot) rfl
  obtain ⟨fd_l_of, F_l_of⟩ := c.def_ 2 (d := d_l_of) rfl
  obtain ⟨fd_l_one, F_l_one⟩ := c.def_ 3 (d := d_l_one) rfl
  obtain ⟨fd_l_mixed, F_l_mixed⟩ := c.def_ 4 (d := d_l_mixed) rfl
  obtain ⟨fd_l_way, F_l_way⟩ := c.def_ 5 (d := d_l_way) rfl
  obtain ⟨fd_l_door, F_l_door⟩ := c.def_ 6 (d := d_l_door) rfl
  obtain ⟨fd_l_house, F_l_house⟩ := c.def_ 7 (d := d_l_house) rfl
  obtain ⟨fd_l_heard, F_l_heard⟩ := c.def_ 8 (d := d_l_heard) rfl
  obtain ⟨fd_l_gated, F_l_gated⟩ := c.def_ 9 (d := d_l_gated) rfl
  obtain ⟨fd_law, F_law⟩ := c.def_ 10 (d := d_law) rfl
  have g_gated := He.glo_ok X G (c.fact 0 (f := .glo "gated") rfl)
  have g_l_pot := He.glo_ok X G (c.fact 1 (f := .glo "_law_pot") rfl)
  have g_l_of := He.glo_ok X G (c.fact 2 (f := .glo "_law_of") rfl)
  have g_l_one := He.glo_ok X G (c.fact 3 (f := .glo "_law_one") rfl)
  have g_l_mixed := He.glo_ok X G (c.fact 4 (f := .glo "_law_mixed") rfl)
  have g_l_way := He.glo_ok X G (c.fact 5 (f := .glo "_law_way") rfl)
  have g_l_door := He.glo_ok X G (c.fact 6 (f := .glo "_law_door") rfl)
  have g_l_house := He.glo_ok X G (c.fact 7 (f := .glo "_law_house") rfl)
  have g_l_heard := He.glo_ok X G (c.fact 8 (f := .glo "_law_heard") rfl)
  have g_l_gated := He.glo_ok X G (c.fact 9 (f := .glo "_law_gated") rfl)
  have g_abs := He.free_ok X G (c.fact 11 (f := .free "abs") rfl)
  have g_enumerate := He.free_ok X G (c.fact 12 (f := .free "enumerate") rfl)
  have g_int := He.free_ok X G (c.fact 13 (f := .free "int") rfl)
  have g_isinstance := He.free_ok X G (c.fact 14 (f := .free "isinstance") rfl)
  have g_len := He.free_ok X G (c.fact 15 (f := .free "len") rfl)
  have g_list := He.free_ok X G (c.fact 16 (f := .free "list") rfl)
  have g_range := He.free_ok X G (c.fact 17 (f := .free "range") rfl)
  have g_repr := He.free_ok X G (c.fact 18 (f := .free "repr") rfl)
  have g_tuple := He.free_ok X G (c.fact 19 (f := .free "tuple") rfl)
  have hz : ∀ z ∈ zf, z K = true := List.all_eq_true.mp cz.z
  have s_MAX_ROOMS := cstF_ok X G (hz (cstB "MAX_ROOMS" (D.int 6)) (List.mem_of_getElem? (i := 7) rfl))
  have s_MAX_STEPS := cstF_ok X G (hz (cstB "MAX_STEPS" (D.int 24)) (List.mem_of_getElem? (i := 8) rfl))
  have x_Unfit := excF_ok X G (c.fact 20 (f := .glo "Unfit") rfl) (c.fact 21 (f := .exc "Unfit") rfl)
  have e_TooMany_TooMany := He.exm_ok (c.fact 22 (f := .exm "TooMany" "TooMany" true) rfl)
  have e_Unfit_Unfit := He.exm_ok (c.fact 23 (f := .exm "Unfit" "Unfit" true) rfl)
  have n_TooMany_Unfit := He.exm_ok (c.fact 24 (f := .exm "TooMany" "Unfit" false) rfl)
  have m_BadHouse := He.glo_ok X G (c.fact 25 (f := .glo "BadHouse") rfl)
  have m_BadRun := He.glo_ok X G (c.fact 26 (f := .glo "BadRun") rfl)
  have m_TooMany := He.glo_ok X G (c.fact 27 (f := .glo "TooMany") rfl)
  have m_WayError := He.glo_ok X G (c.fact 28 (f := .glo "WayError") rfl)
  have i_TooMany := excB_ok (hz (excBx "TooMany") (by simp [zf]))
  have i_Unfit := excB_ok (hz (excBx "Unfit") (by simp [zf]))
  have f_Unfit_BadHouse := of_decide_eq_true (hz (kitBf "Unfit" "BadHouse") (by simp [zf]))
  have f_Unfit_BadRun := of_decide_eq_true (hz (kitBf "Unfit" "BadRun") (by simp [zf]))
  have f_Unfit_TooMany := of_decide_eq_true (hz (kitBf "Unfit" "TooMany") (by simp [zf]))
  have k_TooMany_WayError := of_decide_eq_true (hz (kitB2 "TooMany" "WayError") (by simp [zf]))
  have k_Unfit_WayError := of_decide_eq_true (hz (kitB2 "Unfit" "WayError") (by simp [zf]))
  have u_TooMany : SupF P K mg "TooMany" "limit" _ ini_TooMany := supF_ok (He.glo_ok X G (c.fact 27 (f := .glo "TooMany") rfl)) (He.free_ok X G (c.fact 29 (f := .free "super") rfl)) (czS.ini 0) (hz (supB "TooMany" "limit" "/claim/cut.py") (by simp [zf])) hP hT
  have hy : sysB K = true := hz sysB (List.mem_of_getElem? (i := 9) rfl)
  have e := hfa.symm.trans (He.glo_ok X G (c.fact 10 (f := .glo "law") rfl))
  cases e
  have b := FunD.bindsA (ps := ["script"]) F_law fun _ _ _ _ _ _ us hl => match us, hl with | [_], _ => rfl
  refine ⟨fd_law, fun s v => b s [v] rfl, fun base _ _ TB => ?_⟩
  have GX_gated : FnX P w K mg base 1 _ fd_gated ["house", "hands"] (spX K mg 2 gatedRX) := gated_ok F_gated s_MAX_ROOMS s_MAX_STEPS x_Unfit g_enumerate g_len g_tuple
  have G_gated : FnG P w K mg base 1 _ fd_gated ["house", "hands"] (spR K 2 [] gatedR) := GX_gated.calm (spX_calm (by rintro ms r ms' ⟨house, hands, out, h, rfl, rfl, rfl⟩; exact ⟨⟨house, hands, .ok out, h, rfl, rfl⟩, rfl⟩))
  have G_l_pot : FnG P w K mg base 1 _ fd_l_pot ["script"] (spR K 1 [] l_potR) := l_pot_ok F_l_pot g_abs g_int g_len
  have G_l_of : FnG P w K mg base 1 _ fd_l_of ["pot", "many"] (spR K 2 [0] drawQR) := of_ok F_l_of
  have G_l_one : FnG P w K mg base 2 _ fd_l_one ["pot", "items"] (spR K 2 [0] pickQR) := one_ok F_l_one G_l_of F_l_of g_l_of g_len
  have G_l_mixed : FnG P w K mg base 2 _ fd_l_mixed ["pot", "items"] (spR K 2 [0] l_mixedR) := l_mixed_ok F_l_mixed G_l_of F_l_of g_l_of g_len g_list
  have G_l_way : FnG P w K mg base 3 _ fd_l_way ["pot", "rooms", "steps", "is_rising"] (spR K 4 [0] l_wayR) := l_way_ok F_l_way G_l_of F_l_of g_l_of G_l_one F_l_one g_l_one g_len g_tuple
  have G_l_door : FnG P w K mg base 3 _ fd_l_door ["pot", "many", "is_tame"] (spR K 3 [0] l_doorR) := l_door_ok F_l_door G_l_of F_l_of g_l_of G_l_one F_l_one g_l_one G_l_mixed F_l_mixed g_l_mixed g_list g_range g_tuple
  have G_l_house : FnG P w K mg base 4 _ fd_l_house ["pot", "hands", "rooms", "steps", "kinds"] (spR K 5 [0] l_houseR) := l_house_ok F_l_house G_l_of F_l_of g_l_of G_l_way F_l_way g_l_way G_l_door F_l_door g_l_door g_range g_tuple
  have G_l_heard : ∀ (k : Nat) (call : Except Exn D) (out : (List D)), l_heard_m call = some out → HeardP P w K mg base k _ fd_l_heard "call" call (.im (D.lst ((out).map eX))) := fun k call out h => l_heard_ok F_l_heard x_Unfit e_TooMany_TooMany e_Unfit_Unfit n_TooMany_Unfit m_BadHouse m_BadRun m_TooMany m_WayError i_TooMany i_Unfit f_Unfit_BadHouse f_Unfit_BadRun f_Unfit_TooMany k_TooMany_WayError k_Unfit_WayError u_TooMany g_isinstance call out h
  have G_l_gated : FnG P w K mg base 1 _ fd_l_gated ["house", "hands"] (spR K 2 [] l_gatedR) := l_gated_ok F_l_gated g_enumerate g_len g_tuple
  exact FnG.imp (law_ok F_law G_gated GX_gated F_gated g_gated G_l_pot F_l_pot g_l_pot G_l_of F_l_of g_l_of G_l_one F_l_one g_l_one G_l_way F_l_way g_l_way G_l_house F_l_house g_l_house G_l_heard F_l_heard g_l_heard G_l_gated F_l_gated g_l_gated hy g_len g_list g_range g_repr g_tuple (code_of (p := ("law", none)) F_law rfl) TB) fun vs H Q E ⟨ms, F, r, h1, h2, ⟨ns, _, e, hf, er⟩, h4⟩ => ⟨ms, F, r, h1, h2, ⟨ns, true, hf, e, er⟩, h4⟩
end LW
open PySem PySem.W PySem.Calls PyProof.Rows
theorem PySem.Challenge.cw_roomways_k67_whole_houses_with_a_gate_holds : PySem.Challenge.rw_roomways_k67_whole_houses_with_a_gate.Holds := by
  w_on; o_law
  refine HandSHeadRun.head_any (r := OpenLaw.row PySem.Challenge.rw_roomways_k67_whole_houses_with_a_gate) (q := view (OpenLaw.row PySem.Challenge.rw_roomways_k67_whole_houses_with_a_gate).prog [20]) (H := LW.hk) (ob := LW.ob) (M := 3000) (loose := [("MAX_ROOMS" : PySem.Str), ("MAX_STEPS" : PySem.Str), ("WayError" : PySem.Str), ("Unfit" : PySem.Str), ("BadHouse" : PySem.Str), ("BadRun" : PySem.Str), ("TooMany" : PySem.Str), ("gated" : PySem.Str), ("_law_pot" : PySem.Str), ("_law_of" : PySem.Str), ("_law_one" : PySem.Str), ("_law_mixed" : PySem.Str), ("_law_way" : PySem.Str), ("_law_door" : PySem.Str), ("_law_house" : PySem.Str), ("_law_heard" : PySem.Str), ("_law_gated" : PySem.Str)]) (d := HandSHeadRun.topDef (OpenLaw.row PySem.Challenge.rw_roomways_k67_whole_houses_with_a_gate).prog 20) (kwd := []) LW.ob_eq
    (by kernel_rfl) (fun s => by kernel_rfl) LW.run (by kernel_rfl) (by kernel_rfl) (by kernel_rfl) (by rfl) (by first | assumption | decide +kernel) (by decide +kernel) ⟨rfl, rfl, rfl, rfl, rfl, by decide +kernel⟩ ?hw ?hc
  case hw => w_witness2
  case hc =>
    refine RL.walkGT (l := PySem.Challenge.rw_roomways_k67_whole_houses_with_a_gate) (n := 63) (k := 5) (x := "script") rfl (by decide) (by kernel_rfl) ⟨rfl, by decide, by decide⟩ ?F
    intro w mg fa h Y G hmg0
    obtain ⟨K, KX, c⟩ := Y
    have hmg : mg ("law" : PySem.Str) = some (.ref fa) := by
      have e : (HandSHeadRun.topDef (OpenLaw.row PySem.Challenge.rw_roomways_k67_whole_houses_with_a_gate).prog 20).name = ("law" : PySem.Str) := by kernel_rfl
      rw [← e]
      exact hmg0
    obtain ⟨fd, hb, hF⟩ := LW.facts (P := (PySem.Challenge.rw_roomways_k67_whole_houses_with_a_gate).prog) (w := w) KX G hmg c (by kernel_rfl) (by kernel_rfl)
    exact ⟨K, fd, LW.law_m, _, _, KX, hb, LW.law_true, c.empty _ List.mem_cons_self, c.out _ List.mem_cons_self, PySem.W.codeHd_of_K KX (c.hd _ List.mem_cons_self), hF⟩

