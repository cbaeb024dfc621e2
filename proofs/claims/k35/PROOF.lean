import PyProof.Rows.All
import Wide.All
import OpenK.AllK
import Wide.FinOn
import HandS.ForMost
import HandS.Evl
import KE.KDictKeyed
import KE.KeyNested
import HandS.TupAny
import HandS.TupMul
import HandS.Text
import HandS.Wide
import HandS.IsInst
import HandS.Style
import HandS.Defaults
import HandS.DeepEq
import HandS.Walk
import KE.GoesEnum
import HandS.Head0
import HandS.Head1
import HandS.Head2
import HandS.HeadEnd
import HandS.HeadHook1
import HandS.HeadHook2
import HandS.Zip
import HandS.TryOnly
import HandS.Conv
import HandS.Star
import HandS.Small
import HandS.Exc
import HandS.ExcOwn
import HandS.ExcIs
import HandS.ExcField
import PyProof.P3In
import HandS.SortInts
import KE.KExcSuper
import KE.KSuper
import HandS.ExcInit
import KE.GoesMore
import HandS.StrMore
import KE.GoesZip
import KE.KDictZip
import HandS.ExcValue
import PyProof.Rows.SeqMore
import KE.GoesNew
import KE.SortData
import PyProof.ListStr
import HandS.HeadHook3
import HandS.Strs
import PySem.Challenge.RW_roomways_k35_whole_events_of_wait_rings
set_option Elab.async false
set_option linter.all false
set_option maxRecDepth 100000
set_option maxHeartbeats 2000000
/-! RL1: data, what bears them, the state of a def's body -/
namespace RL
open PySem L2

/-- data that never change -/
inductive D where
  | non | bl (b : Bool) | int (i : Int) | str (s : Str) | tup (l : List D) | lst (l : List D) | dct (l : List (Key × D)) | ty (n : String) | tpw (l : List D)
/-- what a slot may hold: data, lists of data, dicts -/
inductive M where
  | im (d : D) | li (l : List D) | ll (l : List M) | dk (l : List (Key × M)) | dt (w : World) (l : List (D × D))
mutual
/-- a datum as a key of a dict -/
def D.nk : D → Option NestedKey
  | .non => some .none
  | .bl b => some (.num (if b = true then 1 else 0))
  | .int i => some (.num i)
  | .str s => some (.text s)
  | .tup l => (nks l).map .tup
  | _ => none
def nks : List D → Option (List NestedKey)
  | [] => some []
  | d :: l => (D.nk d).bind fun k => (nks l).bind fun ks => some (k :: ks)
end

abbrev FS := Addr → Prop
def e0 : FS := fun _ => False
def Dj (F G : FS) : Prop := ∀ a, F a → G a → False
theorem Dj.symm {F G : FS} (h : Dj F G) : Dj G F := fun a x y => h a y x
theorem Dj.e0l {F : FS} : Dj e0 F := fun _ x _ => x.elim
theorem Dj.e0r {F : FS} : Dj F e0 := fun _ _ x => x.elim

def Ext (H H' : Hp) : Prop := ∀ a o, H a = some o → H' a = some o
def TF (H H' : Hp) : Prop := (∀ a xs, H a = some (.tup xs) → H' a = some (.tup xs)) ∧ ∀ a o u, H a = some (.frz o u) → H' a = some (.frz o u)
theorem Ext.refl {H : Hp} : Ext H H := fun _ _ h => h
theorem Ext.trans {H H1 H2 : Hp} (a : Ext H H1) (b : Ext H1 H2) : Ext H H2 := fun x o h => b x o (a x o h)
theorem Ext.new {H : Hp} {p : Addr} {o : HO} (h : H p = none) : Ext H (upd H p o) := fun a u e => by
  rw [upd_ne (ne_of_none e h)]; exact e
theorem Ext.free {H H' : Hp} {p : Addr} (e : Ext H H') (h : H' p = none) : H p = none := by
  cases h1 : H p with
  | none => rfl
  | some o => rw [e p o h1] at h; cases h
theorem TF.refl {H : Hp} : TF H H := ⟨fun _ _ h => h, fun _ _ _ h => h⟩
theorem TF.trans {H H1 H2 : Hp} (a : TF H H1) (b : TF H1 H2) : TF H H2 := ⟨fun x o h => b.1 x o (a.1 x o h), fun x o u h => b.2 x o u (a.2 x o u h)⟩
theorem Ext.tf {H H' : Hp} (e : Ext H H') : TF H H' := ⟨fun a xs h => e a _ h, fun a o u h => e a _ h⟩
theorem TF.write {H : Hp} {p : Addr} {o : HO} (m : Mut (H p)) : TF H (upd H p o) := by
  refine ⟨fun a xs h => ?_, fun a ob u h => ?_⟩
  · rw [upd_ne]; exact h
    intro e; subst e; rw [h] at m; exact m
  · rw [upd_ne]; exact h
    intro e; subst e; rw [h] at m; exact m
theorem TF.rd {H H' : Hp} {a : Addr} {xs : List V} (t : TF H H') (h : Rd H a (.tup xs)) : Rd H' a (.tup xs) := by
  rcases h with h | ⟨o, h⟩
  · exact .inl (t.1 _ _ h)
  · exact .inr ⟨o, t.2 _ _ _ h⟩
theorem TF.sqt {K : PySem.W.Frag} {H H' : Hp} {a : Addr} {xs : List V} (t : TF H H') (h : SqT K H a xs) : SqT K H' a xs := by
  rcases h with h | h
  · exact .inl (t.rd h)
  · exact .inr h

/-- a list that never changes: locked, or an object of the module -/
def FzL (K : PySem.W.Frag) (H : Hp) (a : Addr) (xs : List V) : Prop :=
  (∃ o, H a = some (.frz o (.lst xs))) ∨ ∃ (o : Obj) (its : Array Value) (n : Nat), K.lookup a = some o ∧ o.cls = .type "list" ∧ o.dict = none ∧ o.data = .seq its n ∧ its.size ≤ sizeLine ∧ Vals xs its.toList
theorem FzL.sq {K : PySem.W.Frag} {H : Hp} {a : Addr} {xs : List V} (h : FzL K H a xs) : SqL K H a xs := by
  rcases h with h | h
  · exact .inl (.inr h)
  · exact .inr h
theorem TF.fzl {K : PySem.W.Frag} {H H' : Hp} {a : Addr} {xs : List V} (t : TF H H') (h : FzL K H a xs) : FzL K H' a xs := by
  rcases h with ⟨o, h⟩ | h
  · exact .inl ⟨o, t.2 _ _ _ h⟩
  · exact .inr h
/-- a tuple, one without a dict of its own -/
structure SqN (K : PySem.W.Frag) (H : Hp) (a : Addr) (xs : List V) : Prop where
  t : SqT K H a xs
  n : (∃ o u, H a = some (.frz o u) ∧ o.dict = none) ∨ ∃ o, K.lookup a = some o ∧ o.dict = none
instance {K : PySem.W.Frag} {H : Hp} {a : Addr} {xs : List V} : Coe (SqN K H a xs) (SqT K H a xs) := ⟨SqN.t⟩
theorem SqN.new {K : PySem.W.Frag} {H : Hp} {a : Addr} {o : Obj} {xs : List V} (h : H a = some (.frz o (.tup xs))) (ho : o.dict = none) : SqN K H a xs := ⟨.inl (.inr ⟨o, h⟩), .inl ⟨o, _, h, ho⟩⟩
theorem TF.sqn {K : PySem.W.Frag} {H H' : Hp} {a : Addr} {xs : List V} (t : TF H H') (h : SqN K H a xs) : SqN K H' a xs := ⟨t.sqt h.t, by
  rcases h.n with ⟨o, u, h1, h2⟩ | h2
  · exact .inl ⟨o, u, t.2 _ _ _ h1, h2⟩
  · exact .inr h2⟩
/-- what the object of a dict by data holds -/
structure DtO (w : World) (o : Obj) (xs : List (NestedKey × Addr × Value)) : Prop where
  ex : o.ExactDict
  dat : ∃ es ep, o.data = .dict es ep ∧ es.toList = xs.map fun x => ⟨NestedKey.hash w x.1, .ref x.2.1, x.2.2⟩
  nd : (xs.map (·.1)).Nodup
  sz : xs.length ≤ sizeLine
section
variable (K : PySem.W.Frag)
mutual
/-- a value bears a datum -/
def rD : D → V → Hp → Prop
  | .non, v, _ => v = .non
  | .bl b, v, _ => v = .bl b
  | .int i, v, _ => v = .int i
  | .str s, v, _ => v = .str s
  | .ty n, v, _ => v = .ty n
  | .tup ds, v, H => ∃ a vs, v = .ref a ∧ SqN K H a vs ∧ rDs ds vs H
  | .lst ds, v, H => ∃ a vs, v = .ref a ∧ FzL K H a vs ∧ rDs ds vs H
  | .tpw ds, v, H => ∃ a vs, v = .ref a ∧ SqT K H a vs ∧ rDs ds vs H
  | .dct ks, v, H => ∃ a o kvs, v = .ref a ∧ H a = some (.frz o (.dK kvs)) ∧ rDk ks kvs H
def rDs : List D → List V → Hp → Prop
  | [], vs, _ => vs = []
  | d :: ds, vs, H => ∃ w ws, vs = w :: ws ∧ rD d w H ∧ rDs ds ws H
def rDk : List (Key × D) → List (Key × V) → Hp → Prop
  | [], vs, _ => vs = []
  | (k, d) :: ds, vs, H => ∃ w ws, vs = (k, w) :: ws ∧ rD d w H ∧ rDk ds ws H
end
def rDx : List (D × D) → List (NestedKey × Addr × Value) → Hp → Prop
  | [], xs, _ => xs = []
  | (k, d) :: l, xs, H => ∃ x b u v ys, xs = (x, b, u) :: ys ∧ k.nk = some x ∧ (∃ ds, k = .tup ds) ∧ rD K k (.ref b) H ∧ rD K d v H ∧ RelV v u ∧ rDx l ys H
mutual
/-- a value bears what may change, the changeable objects of which stand at F -/
def rM : M → V → Hp → FS → Prop
  | .im d, v, H, F => rD K d v H ∧ ∀ a, ¬ F a
  | .li ds, v, H, F => ∃ a vs, v = .ref a ∧ H a = some (.lst vs) ∧ rDs K ds vs H ∧ ∀ b, F b ↔ b = a
  | .ll ms, v, H, F => ∃ a vs F', v = .ref a ∧ H a = some (.lst vs) ∧ rMs ms vs H F' ∧ ¬ F' a ∧ ∀ b, F b ↔ (b = a ∨ F' b)
  | .dk ks, v, H, F => ∃ a kvs F', v = .ref a ∧ H a = some (.dK kvs) ∧ rMk ks kvs H F' ∧ ¬ F' a ∧ ∀ b, F b ↔ (b = a ∨ F' b)
  | .dt w l, v, H, F => ∃ a o xs, v = .ref a ∧ (a == sysModules) = false ∧ H a = some (.ext fun h => h.get? a = some o) ∧ DtO w o xs ∧ rDx K l xs H ∧ ∀ b, F b ↔ b = a
def rMs : List M → List V → Hp → FS → Prop
  | [], vs, _, F => vs = [] ∧ ∀ a, ¬ F a
  | m :: ms, vs, H, F => ∃ w ws F1 F2, vs = w :: ws ∧ rM m w H F1 ∧ rMs ms ws H F2 ∧ Dj F1 F2 ∧ ∀ a, F a ↔ (F1 a ∨ F2 a)
def rMk : List (Key × M) → List (Key × V) → Hp → FS → Prop
  | [], vs, _, F => vs = [] ∧ ∀ a, ¬ F a
  | (k, m) :: ms, vs, H, F => ∃ w ws F1 F2, vs = (k, w) :: ws ∧ rM m w H F1 ∧ rMk ms ws H F2 ∧ Dj F1 F2 ∧ ∀ a, F a ↔ (F1 a ∨ F2 a)
end
end

variable {K : PySem.W.Frag} {H H' : Hp}
mutual
theorem rD.tf (t : TF H H') : ∀ {d : D} {v : V}, rD K d v H → rD K d v H'
  | .non, v, h => by unfold rD at h ⊢; exact h
  | .bl b, v, h => by unfold rD at h ⊢; exact h
  | .int i, v, h => by unfold rD at h ⊢; exact h
  | .str s, v, h => by unfold rD at h ⊢; exact h
  | .ty n, v, h => by unfold rD at h ⊢; exact h
  | .tup ds, v, h => by
    unfold rD at h ⊢
    obtain ⟨a, vs, e, s, r⟩ := h
    exact ⟨a, vs, e, t.sqn s, rDs.tf t r⟩
  | .lst ds, v, h => by
    unfold rD at h ⊢
    obtain ⟨a, vs, e, s, r⟩ := h
    exact ⟨a, vs, e, t.fzl s, rDs.tf t r⟩
  | .tpw ds, v, h => by
    unfold rD at h ⊢
    obtain ⟨a, vs, e, s, r⟩ := h
    exact ⟨a, vs, e, t.sqt s, rDs.tf t r⟩
  | .dct ks, v, h => by
    unfold rD at h ⊢
    obtain ⟨a, o, vs, e, s, r⟩ := h
    exact ⟨a, o, vs, e, t.2 _ _ _ s, rDk.tf t r⟩
theorem rDs.tf (t : TF H H') : ∀ {d : List D} {v : List V}, rDs K d v H → rDs K d v H'
  | [], v, h => by unfold rDs at h ⊢; exact h
  | d :: ds, v, h => by
    unfold rDs at h ⊢
    obtain ⟨w, ws, e, r, s⟩ := h
    exact ⟨w, ws, e, rD.tf t r, rDs.tf t s⟩
theorem rDk.tf (t : TF H H') : ∀ {d : List (Key × D)} {v : List (Key × V)}, rDk K d v H → rDk K d v H'
  | [], v, h => by unfold rDk at h ⊢; exact h
  | (k, d) :: ds, v, h => by
    unfold rDk at h ⊢
    obtain ⟨w, ws, e, r, s⟩ := h
    exact ⟨w, ws, e, rD.tf t r, rDk.tf t s⟩
end
theorem rDx.tf (t : TF H H') : ∀ {l : List (D × D)} {xs : List (NestedKey × Addr × Value)}, rDx K l xs H → rDx K l xs H'
  | [], xs, h => by unfold rDx at h ⊢; exact h
  | (k, d) :: l, xs, h => by
    unfold rDx at h ⊢
    obtain ⟨x, b, u, v, ys, e, h1, h2, h3, h4, h5, h6⟩ := h
    exact ⟨x, b, u, v, ys, e, h1, h2, rD.tf t h3, rD.tf t h4, h5, rDx.tf t h6⟩
mutual
theorem rM.st (t : TF H H') : ∀ {m : M} {v : V} {F : FS}, (∀ a, F a → H' a = H a) → rM K m v H F → rM K m v H' F
  | .im d, v, F, k, h => by unfold rM at h ⊢; exact ⟨h.1.tf t, h.2⟩
  | .li ds, v, F, k, h => by
    unfold rM at h ⊢
    obtain ⟨a, vs, e, s, r, f⟩ := h
    exact ⟨a, vs, e, (k a ((f a).2 rfl)).trans s, r.tf t, f⟩
  | .ll ms, v, F, k, h => by
    unfold rM at h ⊢
    obtain ⟨a, vs, F', e, s, r, n, f⟩ := h
    exact ⟨a, vs, F', e, (k a ((f a).2 (.inl rfl))).trans s, rMs.st t (fun b hb => k b ((f b).2 (.inr hb))) r, n, f⟩
  | .dk ms, v, F, k, h => by
    unfold rM at h ⊢
    obtain ⟨a, vs, F', e, s, r, n, f⟩ := h
    exact ⟨a, vs, F', e, (k a ((f a).2 (.inl rfl))).trans s, rMk.st t (fun b hb => k b ((f b).2 (.inr hb))) r, n, f⟩
  | .dt w l, v, F, k, h => by
    unfold rM at h ⊢
    obtain ⟨a, o, xs, e, ns, s, q, r, f⟩ := h
    exact ⟨a, o, xs, e, ns, (k a ((f a).2 rfl)).trans s, q, rDx.tf t r, f⟩
theorem rMs.st (t : TF H H') : ∀ {m : List M} {v : List V} {F : FS}, (∀ a, F a → H' a = H a) → rMs K m v H F → rMs K m v H' F
  | [], v, F, k, h => by unfold rMs at h ⊢; exact h
  | m :: ms, v, F, k, h => by
    unfold rMs at h ⊢
    obtain ⟨w, ws, F1, F2, e, r, s, d, f⟩ := h
    exact ⟨w, ws, F1, F2, e, rM.st t (fun a ha => k a ((f a).2 (.inl ha))) r, rMs.st t (fun a ha => k a ((f a).2 (.inr ha))) s, d, f⟩
theorem rMk.st (t : TF H H') : ∀ {m : List (Key × M)} {v : List (Key × V)} {F : FS}, (∀ a, F a → H' a = H a) → rMk K m v H F → rMk K m v H' F
  | [], v, F, k, h => by unfold rMk at h ⊢; exact h
  | (_, m) :: ms, v, F, k, h => by
    unfold rMk at h ⊢
    obtain ⟨w, ws, F1, F2, e, r, s, d, f⟩ := h
    exact ⟨w, ws, F1, F2, e, rM.st t (fun a ha => k a ((f a).2 (.inl ha))) r, rMk.st t (fun a ha => k a ((f a).2 (.inr ha))) s, d, f⟩
end
mutual
theorem rM.mut : ∀ {m : M} {v : V} {F : FS} {a : Addr}, rM K m v H F → F a → Mut (H a)
  | .im d, v, F, a, h, f => by unfold rM at h; exact absurd f (h.2 a)
  | .li ds, v, F, a, h, f => by
    unfold rM at h
    obtain ⟨b, vs, e, s, r, g⟩ := h
    cases (g a).1 f
    rw [s]; trivial
  | .ll ms, v, F, a, h, f => by
    unfold rM at h
    obtain ⟨b, vs, F', e, s, r, n, g⟩ := h
    rcases (g a).1 f with q | q
    · subst q; rw [s]; trivial
    · exact rMs.mut r q
  | .dk ms, v, F, a, h, f => by
    unfold rM at h
    obtain ⟨b, vs, F', e, s, r, n, g⟩ := h
    rcases (g a).1 f with q | q
    · subst q; rw [s]; trivial
    · exact rMk.mut r q
  | .dt w l, v, F, a, h, f => by
    unfold rM at h
    obtain ⟨b, o, xs, e, ns, s, q, r, g⟩ := h
    cases (g a).1 f
    rw [s]; trivial
theorem rMs.mut : ∀ {m : List M} {v : List V} {F : FS} {a : Addr}, rMs K m v H F → F a → Mut (H a)
  | [], v, F, a, h, f => by unfold rMs at h; exact absurd f (h.2 a)
  | m :: ms, v, F, a, h, f => by
    unfold rMs at h
    obtain ⟨w, ws, F1, F2, e, r, s, d, g⟩ := h
    rcases (g a).1 f with q | q
    · exact rM.mut r q
    · exact rMs.mut s q
theorem rMk.mut : ∀ {m : List (Key × M)} {v : List (Key × V)} {F : FS} {a : Addr}, rMk K m v H F → F a → Mut (H a)
  | [], v, F, a, h, f => by unfold rMk at h; exact absurd f (h.2 a)
  | (_, m) :: ms, v, F, a, h, f => by
    unfold rMk at h
    obtain ⟨w, ws, F1, F2, e, r, s, d, g⟩ := h
    rcases (g a).1 f with q | q
    · exact rM.mut r q
    · exact rMk.mut s q
end
end RL

set_option maxHeartbeats 2000000
/-! RT: tuples are made without a dict of their own -/
namespace RL
open PySem L2 PySem.Spec PyProof.Rows
def NewT (H : Hp) (xs : List V) (Q : VK) : Prop := ∀ p o, H p = none → o.dict = none → Q (.ref p) (upd H p (.frz o (.tup xs)))
section
variable {X : Cx} {pins : List (Addr × Obj)} {σ : L2.St} {H : Hp} {s : Shared} {Q : VK} {xs : List V} {its : List Value}
/-- a new tuple is laid -/
theorem laidN (I : Inv X pins σ H s) {tk : Tok} {n : Nat} (hz : xs.length ≤ sizeLine) (r : Vals xs its) (q : NewT H xs Q) : L2.EP X pins σ Q (.ref s.heap.objs.size) { s with toks := tk, heap := s.heap.push { cls := .type "tuple", data := .seq its.toArray n } } := by
  have hp := I.hok.fresh (Nat.le_refl s.heap.objs.size)
  refine ⟨.ref s.heap.objs.size, _, I.laid (o := .frz { cls := .type "tuple", data := .seq its.toArray n } (.tup xs)) (fun b u q => Heap.get?_push_of_some _ q) (Nat.le_refl _) ?_, rfl, q _ _ hp rfl⟩
  exact ⟨Heap.get?_push_size _ rfl, hz, its, r, ⟨_, Heap.get?_push_size _ rfl, rfl, n, rfl⟩⟩
end
section
variable {X : Cx} {es : List Expr} {t : TA} {pos : Pos}
/-- (a, b, ..) -/
def tTupN (t : TA) : TE := fun σ H Q => t σ H fun xs H1 => xs.length ≤ sizeLine ∧ NewT H1 xs Q
theorem pe_tupN {x1} (h : PA X es t) : PE X (.Tuple es x1 pos) (tTupN t) := by
  refine ⟨fun pins s σ H Q I hq => ?_⟩
  refine wpAny_Tuple_spliced (thn (h.run pos pins s σ H _ I hq) fun us s1 ⟨xs, H1, I1, r, z, q⟩ => ⟨by rw [← r.length]; exact z, ?_⟩)
  exact laidN I1 z r q
/-- t[lo:hi] -/
def rSlN (K : PySem.W.Frag) : V → Option Int → Option Int → Hp → VK → Prop := fun x lo hi H Q => ∃ a xs, x = .ref a ∧ SqT K H a xs ∧
  (HT.sIx xs.length 0 lo = 0 ∧ HT.sIx xs.length xs.length hi = xs.length → Q (.ref a) H) ∧ (¬ (HT.sIx xs.length 0 lo = 0 ∧ HT.sIx xs.length xs.length hi = xs.length) → NewT H (cutV xs lo hi) Q)
theorem sl_tupN : SlR X (rSlN X.K) := by
  intro pins s σ H x v vl vu lo hi sl Q I rx hs pl pu h
  obtain ⟨a, xs, rfl, hx, q1, q2⟩ := h
  by_cases hw : HT.sIx xs.length 0 lo = 0 ∧ HT.sIx xs.length xs.length hi = xs.length
  · cases rx
    obtain ⟨its, r, ht, hz⟩ := I.tuple hx
    have hlen : its.toArray.size = xs.length := by rw [List.size_toArray]; exact r.length.symm
    refine ⟨"tuple", _, PyProof.Rows.slot_tuple_getitem.lookup, ht.typeIs, ?_⟩
    exact getItem_tuple_whole ht hs pl pu (by rw [hlen]; exact hw) ⟨.ref a, H, I, rfl, q1 hw⟩
  · cases rx
    obtain ⟨its, r, ht, hz⟩ := I.tuple hx
    have hlen : its.toArray.size = xs.length := by rw [List.size_toArray]; exact r.length.symm
    refine ⟨"tuple", _, PyProof.Rows.slot_tuple_getitem.lookup, ht.typeIs, ?_⟩
    refine HT.getItem_tuple_cut ht hs pl pu (by rw [hlen]; exact hw) ?_ (by rw [hlen]; exact hz)
    rw [hlen]
    exact laidN I (Nat.le_trans (cutV_length xs lo hi) hz) ((r.drop (HT.sIx xs.length 0 lo)).take (HT.sIx xs.length xs.length hi - HT.sIx xs.length 0 lo)) (q2 hw)
/-- t + u -/
def rCatN (K : PySem.W.Frag) : R2 := fun x y H Q => ∃ a b xs ys, x = .ref a ∧ y = .ref b ∧ SqT K H a xs ∧ SqT K H b ys ∧ xs.length + ys.length ≤ sizeLine ∧ (xs = [] → Q (.ref b) H) ∧ (xs ≠ [] → ys = [] → Q (.ref a) H) ∧ (xs ≠ [] → ys ≠ [] → NewT H (xs ++ ys) Q)
theorem op_catN : OpR X (binaryOp .Add) (rCatN X.K) := by
  intro pins s σ H x y v u Q I rx ry h
  obtain ⟨a, b, xs, ys, rfl, rfl, ha, hb, hz, q0, q1, q2⟩ := h
  cases rx
  cases ry
  obtain ⟨its, r1, p1, _⟩ := I.tuple ha
  obtain ⟨its2, r2, p2, _⟩ := I.tuple hb
  by_cases hx : xs = []
  · subst hx
    cases r1
    exact cat_tup0 p1 p2 ⟨.ref b, H, I, rfl, q0 rfl⟩
  · refine HT.cat_tup p1 p2 (fun z => hx (r1.nil_iff.mp z)) (fun z => ⟨.ref a, H, I, rfl, q1 hx (r2.nil_iff.mp z)⟩) (fun z => ?_) (by rw [← r1.length, ← r2.length]; exact hz)
    exact laidN I (by rw [List.length_append]; exact hz) (r1.append r2) (q2 hx fun w => z (r2.nil_iff.mpr w))
/-- tuple(xs), tuple(t) -/
theorem call_tuple_ofN : CallR X (.type "tuple") (fun xs H Q => ∃ p ys, xs = [.ref p] ∧ ((SqL X.K H p ys ∧ NewT H ys Q) ∨ (SqT X.K H p ys ∧ Q (.ref p) H))) := by
  intro pins s σ H xs us Q I r h
  obtain ⟨p, ys, rfl, h⟩ := h
  obtain ⟨u, rfl, rx⟩ := vals1 r
  cases rx
  rcases h with ⟨hq, q⟩ | ⟨hq, q⟩
  · obtain ⟨its, r', pl, hz⟩ := I.list hq
    have hlen := r'.length
    refine call_tuple_list pl.isList (fun h' kp => ?_) (by simp only [List.size_toArray] <;> omega)
    have I1 : Inv X pins σ H { s with heap := h' } := I.kept (t' := s.toks) kp
    exact laidN I1 hz r' q
  · obtain ⟨its, r', pl, hz⟩ := I.tuple hq
    exact call_tuple_same pl ⟨.ref p, H, I, rfl, q⟩
end
end RL

set_option maxHeartbeats 2000000
/-! RL2: the state of a def's body -/
namespace RL
open PySem L2

/-- what lies on the stack of values: its own; taken out of a slot; another name of a slot -/
inductive T where
  | own (m : M) | tk (j : Nat) (m : M) | al (j : Nat) | hid (m : M) (v : V) | hal (j : Nat) (v : V) | hip (v : V) (P : Hp → Prop) (s : ∀ H H', TF H H' → P H → P H')
abbrev T.im (d : D) : T := .own (.im d)
abbrev Ctx := List (Option M)
structure Cn where
  K : PySem.W.Frag
  H0 : Hp
  io : FS
  pin : List (Nat × V)
  mio : ∀ a, io a → Mut (H0 a)
def rT (K : PySem.W.Frag) (σ : St) : T → V → Hp → FS → Prop
  | .own m, v, H, G => rM K m v H G
  | .tk j m, v, H, G => σ[j]? = some (some v) ∧ rM K m v H G
  | .al j, v, H, G => σ[j]? = some (some v) ∧ ∀ a, ¬ G a
  | .hid m v0, v, H, G => v = v0 ∧ rM K m v H G
  | .hal j v0, v, H, G => v = v0 ∧ σ[j]? = some (some v) ∧ ∀ a, ¬ G a
  | .hip v0 P _, v, H, G => v = v0 ∧ P H ∧ ∀ a, ¬ G a
/-- it is not about the slot i -/
def T.free (i : Nat) : T → Prop
  | .own _ => True
  | .tk j _ => j ≠ i
  | .al j => j ≠ i
  | .hid _ _ => True
  | .hal j _ => j ≠ i
  | .hip _ _ _ => True
def Free (i : Nat) : List T → Prop
  | [] => True
  | t :: ts => t.free i ∧ Free i ts
theorem Free.of {i : Nat} : ∀ {Ts : List T} {k : Nat} {t : T}, Free i Ts → Ts[k]? = some t → t.free i
  | [], k, t, h, e => by simp at e
  | u :: ts, 0, t, h, e => by simp at e; subst e; exact h.1
  | u :: ts, k + 1, t, h, e => Free.of (Ts := ts) h.2 (by simpa using e)
theorem rT.free {K : PySem.W.Frag} {H : Hp} {σ : St} {t : T} {v w : V} {F : FS} {i : Nat} (f : t.free i) (h : rT K σ t v H F) : rT K (σ.set i (some w)) t v H F := by
  cases t with
  | own m => exact h
  | tk j m => exact ⟨by rw [List.getElem?_set_ne (Ne.symm f)]; exact h.1, h.2⟩
  | al j => exact ⟨by rw [List.getElem?_set_ne (Ne.symm f)]; exact h.1, h.2⟩
  | hid m v0 => exact h
  | hal j v0 => exact ⟨h.1, by rw [List.getElem?_set_ne (Ne.symm f)]; exact h.2.1, h.2.2⟩
  | hip v0 P s => exact h
def Frm (H0 : Hp) (io : FS) (H : Hp) : Prop := ∀ a o, H0 a = some o → ¬ io a → H a = some o
theorem Frm.tf {H0 H : Hp} {io : FS} (f : Frm H0 io H) (m : ∀ a, io a → Mut (H0 a)) : TF H0 H := by
  refine ⟨fun a xs h => f a _ h fun i => ?_, fun a o u h => f a _ h fun i => ?_⟩
  · have := m a i; rw [h] at this; exact this
  · have := m a i; rw [h] at this; exact this
theorem rT.st {K : PySem.W.Frag} {H H' : Hp} {σ : St} {t : T} {v : V} {F : FS} (tf : TF H H') (k : ∀ a, F a → H' a = H a) (h : rT K σ t v H F) : rT K σ t v H' F := by
  cases t with
  | own m => exact rM.st tf k h
  | tk j m => exact ⟨h.1, rM.st tf k h.2⟩
  | al j => exact h
  | hid m v0 => exact ⟨h.1, rM.st tf k h.2⟩
  | hal j v0 => exact h
  | hip v0 P s => exact ⟨h.1, s _ _ tf h.2.1, h.2.2⟩

structure AsW (C : Cn) (Γ : Ctx) (Ts : List T) (σ : St) (vs : List V) (H : Hp) (fp : Sum Nat Nat → FS) : Prop where
  lg : Γ.length = σ.length
  ln : Ts.length = vs.length
  sl : ∀ i m, Γ[i]? = some (some m) → ∃ v, σ[i]? = some (some v) ∧ rM C.K m v H (fp (.inl i))
  tp : ∀ k t, Ts[k]? = some t → ∃ v, vs[k]? = some v ∧ rT C.K σ t v H (fp (.inr k))
  dj : ∀ x y, x ≠ y → Dj (fp x) (fp y)
  sn : ∀ x a, fp x a → C.io a ∨ C.H0 a = none
  mu : ∀ x a, fp x a → Mut (H a)
  fr : Frm C.H0 C.io H
  pn : ∀ p ∈ C.pin, σ[p.1]? = some (some p.2)
def As (C : Cn) (Γ : Ctx) (Ts : List T) (σ : St) (vs : List V) (H : Hp) : Prop := ∃ fp, AsW C Γ Ts σ vs H fp

section
variable {C : Cn} {Γ Γ' : Ctx} {Ts : List T} {σ : St} {vs : List V} {H H' : Hp} {i j : Nat} {m m' : M} {t : T} {v w : V} {F F' : FS} {fp : Sum Nat Nat → FS}

theorem mut_some {o : Option HO} (m : Mut o) : ∃ u, o = some u := by
  cases o with
  | none => exact m.elim
  | some u => exact ⟨u, rfl⟩
theorem Ext.same (e : Ext H H') {a : Addr} (m : Mut (H a)) : H' a = H a := by
  obtain ⟨u, h⟩ := mut_some m
  rw [h]; exact e a u h
theorem As.ext (e : Ext H H') (h : As C Γ Ts σ vs H) : As C Γ Ts σ vs H' := by
  obtain ⟨fp, W⟩ := h
  refine ⟨fp, W.lg, W.ln, fun i m q => ?_, fun k t q => ?_, W.dj, W.sn, fun x a q => ?_, fun a o q n => e a o (W.fr a o q n), W.pn⟩
  · obtain ⟨v, q1, q2⟩ := W.sl i m q
    exact ⟨v, q1, rM.st e.tf (fun a ha => e.same (W.mu _ a ha)) q2⟩
  · obtain ⟨v, q1, q2⟩ := W.tp k t q
    exact ⟨v, q1, rT.st e.tf (fun a ha => e.same (W.mu _ a ha)) q2⟩
  · rw [e.same (W.mu x a q)]; exact W.mu x a q
theorem As.tf (h : As C Γ Ts σ vs H) : TF C.H0 H := by
  obtain ⟨fp, W⟩ := h
  exact W.fr.tf C.mio
/-- a new footprint at one place; the heap changed at that place alone, or grew -/
theorem AsW.at (W : AsW C Γ Ts σ vs H fp) (x : Sum Nat Nat) (t : TF H H') (k : ∀ a, ¬ fp x a → H a ≠ none → H' a = H a) (n : ∀ a, F' a → fp x a ∨ H a = none) (mf : ∀ a, F' a → Mut (H' a)) :
    (∀ y, y ≠ x → ∀ a, fp y a → H' a = H a) ∧ (∀ y z, y ≠ z → Dj (if y = x then F' else fp y) (if z = x then F' else fp z)) ∧ (∀ y a, (if y = x then F' else fp y) a → C.io a ∨ C.H0 a = none) ∧ (∀ y a, (if y = x then F' else fp y) a → Mut (H' a)) ∧ Frm C.H0 C.io H' := by
  have k1 : ∀ y, y ≠ x → ∀ a, fp y a → H' a = H a := fun y hy a ha => by
    obtain ⟨u, hu⟩ := mut_some (W.mu y a ha)
    exact k a (fun q => W.dj y x hy a ha q) (by rw [hu]; simp)
  have nf : ∀ y, y ≠ x → ∀ a, F' a → ¬ fp y a := fun y hy a ha q => by
    rcases n a ha with r | r
    · exact W.dj x y (fun e => hy e.symm) a r q
    · obtain ⟨u, hu⟩ := mut_some (W.mu y a q)
      rw [hu] at r; cases r
  refine ⟨k1, fun y z hyz a ha hb => ?_, fun y a ha => ?_, fun y a ha => ?_, fun a o q ni => ?_⟩
  · by_cases hy : y = x
    · rw [if_pos hy] at ha
      by_cases hz : z = x
      · exact hyz (hy.trans hz.symm)
      · rw [if_neg hz] at hb
        exact nf z hz a ha hb
    · rw [if_neg hy] at ha
      by_cases hz : z = x
      · rw [if_pos hz] at hb
        exact nf y hy a hb ha
      · rw [if_neg hz] at hb
        exact W.dj y z hyz a ha hb
  · by_cases hy : y = x
    · rw [if_pos hy] at ha
      rcases n a ha with r | r
      · exact W.sn x a r
      · by_cases hi : C.io a
        · exact .inl hi
        · refine .inr ?_
          cases q : C.H0 a with
          | none => rfl
          | some o => rw [W.fr a o q hi] at r; cases r
    · rw [if_neg hy] at ha
      exact W.sn y a ha
  · by_cases hy : y = x
    · rw [if_pos hy] at ha
      exact mf a ha
    · rw [if_neg hy] at ha
      rw [k1 y hy a ha]
      exact W.mu y a ha
  · have r := W.fr a o q ni
    rw [k a (fun f => ?_) (by rw [r]; simp)]
    · exact r
    · rcases W.sn x a f with z | z
      · exact ni z
      · rw [q] at z; cases z
/-- what the slot i holds is changed -/
theorem As.slot (h : As C Γ Ts σ vs H) (hi : Γ[i]? = some (some m)) : ∃ v F, σ[i]? = some (some v) ∧ rM C.K m v H F ∧
    ∀ m' H' F', TF H H' → (∀ a, ¬ F a → H a ≠ none → H' a = H a) → rM C.K m' v H' F' → (∀ a, F' a → F a ∨ H a = none) → As C (Γ.set i (some m')) Ts σ vs H' := by
  obtain ⟨fp, W⟩ := h
  obtain ⟨v, hv, r⟩ := W.sl i m hi
  refine ⟨v, fp (.inl i), hv, r, fun m' H' F' t k r' n => ?_⟩
  obtain ⟨k1, d, s, u, f⟩ := W.at (.inl i) t k n fun a ha => rM.mut r' ha
  have hl : i < Γ.length := (List.getElem?_eq_some_iff.mp hi).1
  refine ⟨fun y => if y = .inl i then F' else fp y, by rw [List.length_set]; exact W.lg, W.ln, fun j mj q => ?_, fun l tl q => ?_, d, s, u, f, W.pn⟩
  · by_cases e : j = i
    · subst e
      rw [List.getElem?_set_self hl] at q
      cases q
      exact ⟨v, hv, by rw [if_pos rfl]; exact r'⟩
    · rw [List.getElem?_set_ne (Ne.symm e)] at q
      obtain ⟨v', q1, q2⟩ := W.sl j mj q
      have ne : (Sum.inl j : Sum Nat Nat) ≠ .inl i := fun z => e (Sum.inl.inj z)
      exact ⟨v', q1, by rw [if_neg ne]; exact rM.st t (k1 _ ne) q2⟩
  · obtain ⟨v', q1, q2⟩ := W.tp l tl q
    have ne : (Sum.inr l : Sum Nat Nat) ≠ .inl i := fun z => nomatch z
    exact ⟨v', q1, by rw [if_neg ne]; exact rT.st t (k1 _ ne) q2⟩
theorem app_get {α : Type} {l : List α} {x y : α} {k : Nat} (h : (l ++ [x])[k]? = some y) : (l[k]? = some y ∧ k < l.length) ∨ (k = l.length ∧ y = x) := by
  by_cases e : k < l.length
  · rw [List.getElem?_append_left e] at h
    exact .inl ⟨h, e⟩
  · have e2 : l.length ≤ k := Nat.le_of_not_lt e
    rw [List.getElem?_append_right e2] at h
    have e3 : k - l.length = 0 := by
      cases z : k - l.length with
      | zero => rfl
      | succ n => rw [z] at h; simp at h
    rw [e3] at h
    simp at h
    exact .inr ⟨by omega, h.symm⟩
theorem app_left {α : Type} {l : List α} {x : α} {k : Nat} (h : k < l.length) : (l ++ [x])[k]? = l[k]? := List.getElem?_append_left h
theorem app_last {α : Type} {l : List α} {x : α} : (l ++ [x])[l.length]? = some x := by simp
/-- what lies on top is changed -/
theorem As.top (h : As C Γ (Ts ++ [t]) σ (vs ++ [v]) H) : ∃ F, rT C.K σ t v H F ∧
    ∀ t' v' H' F', TF H H' → (∀ a, ¬ F a → H a ≠ none → H' a = H a) → rT C.K σ t' v' H' F' → (∀ a, F' a → F a ∨ H a = none) → (∀ a, F' a → Mut (H' a)) → As C Γ (Ts ++ [t']) σ (vs ++ [v']) H' := by
  obtain ⟨fp, W⟩ := h
  have ln : Ts.length = vs.length := by have := W.ln; simp at this; exact this
  obtain ⟨v1, hv, r⟩ := W.tp Ts.length t app_last
  have ev : v1 = v := by
    rw [ln, app_last] at hv; exact (Option.some.inj hv).symm
  subst ev
  refine ⟨fp (.inr Ts.length), r, fun t' v' H' F' tf k r' n mf => ?_⟩
  obtain ⟨k1, d, s, u, f⟩ := W.at (.inr Ts.length) tf k n mf
  refine ⟨fun y => if y = .inr Ts.length then F' else fp y, W.lg, by simp [ln], fun j mj q => ?_, fun l tl q => ?_, d, s, u, f, W.pn⟩
  · obtain ⟨v', q1, q2⟩ := W.sl j mj q
    have ne : (Sum.inl j : Sum Nat Nat) ≠ .inr Ts.length := fun z => nomatch z
    exact ⟨v', q1, by rw [if_neg ne]; exact rM.st tf (k1 _ ne) q2⟩
  · rcases app_get q with ⟨q, hl⟩ | ⟨e, e2⟩
    · obtain ⟨v', q1, q2⟩ := W.tp l tl (by rw [app_left hl]; exact q)
      have ne : (Sum.inr l : Sum Nat Nat) ≠ .inr Ts.length := fun z => by have := Sum.inr.inj z; omega
      have hl2 : l < vs.length := by omega
      refine ⟨v', by rw [app_left hl2] at q1 ⊢; exact q1, by rw [if_neg ne]; exact rT.st tf (k1 _ ne) q2⟩
    · subst e e2
      exact ⟨v', by rw [ln]; exact app_last, by rw [if_pos rfl]; exact r'⟩
/-- pushed: made anew, or data -/
theorem As.push (h : As C Γ Ts σ vs H) (e : Ext H H') (r : rT C.K σ t v H' F) (n : ∀ a, F a → H a = none) (mf : ∀ a, F a → Mut (H' a)) : As C Γ (Ts ++ [t]) σ (vs ++ [v]) H' := by
  obtain ⟨fp, W⟩ := h
  have ln := W.ln
  have nf : ∀ x a, F a → ¬ fp x a := fun x a ha q => by
    obtain ⟨u, hu⟩ := mut_some (W.mu x a q)
    rw [n a ha] at hu; cases hu
  let fq : Sum Nat Nat → FS := fun y => if y = .inr Ts.length then F else fp y
  have q1 : ∀ y, y ≠ .inr Ts.length → fq y = fp y := fun y hy => if_neg hy
  have q2 : fq (.inr Ts.length) = F := if_pos rfl
  refine ⟨fq, W.lg, by simp [ln], fun i m q => ?_, fun k t q => ?_, fun x y hxy a ha hb => ?_, fun x a ha => ?_, fun x a ha => ?_, fun a o q ni => e a o (W.fr a o q ni), W.pn⟩
  · obtain ⟨v, r1, r2⟩ := W.sl i m q
    exact ⟨v, r1, by rw [q1 (.inl i) (fun z => nomatch z)]; exact rM.st e.tf (fun a ha => e.same (W.mu _ a ha)) r2⟩
  · rcases app_get q with ⟨q, hl⟩ | ⟨z1, z2⟩
    · obtain ⟨v, r1, r2⟩ := W.tp k t q
      refine ⟨v, by rw [app_left (by omega)]; exact r1, ?_⟩
      rw [q1 (.inr k) (fun z => by have := Sum.inr.inj z; omega)]
      exact rT.st e.tf (fun a ha => e.same (W.mu _ a ha)) r2
    · subst z1 z2
      exact ⟨v, by rw [ln]; exact app_last, by rw [q2]; exact r⟩
  · by_cases hx : x = .inr Ts.length
    · subst hx
      rw [q2] at ha
      rw [q1 _ (Ne.symm hxy)] at hb
      exact nf _ a ha hb
    · rw [q1 _ hx] at ha
      by_cases hy : y = .inr Ts.length
      · subst hy
        rw [q2] at hb
        exact nf _ a hb ha
      · rw [q1 _ hy] at hb
        exact W.dj x y hxy a ha hb
  · by_cases hx : x = .inr Ts.length
    · subst hx
      rw [q2] at ha
      by_cases hi : C.io a
      · exact .inl hi
      · refine .inr ?_
        cases q : C.H0 a with
        | none => rfl
        | some o => have := W.fr a o q hi; rw [n a ha] at this; cases this
    · rw [q1 _ hx] at ha
      exact W.sn x a ha
  · by_cases hx : x = .inr Ts.length
    · subst hx
      rw [q2] at ha
      exact mf a ha
    · rw [q1 _ hx] at ha
      rw [e.same (W.mu x a ha)]
      exact W.mu x a ha
theorem As.pop (h : As C Γ (Ts ++ [t]) σ (vs ++ [v]) H) : As C Γ Ts σ vs H := by
  obtain ⟨fp, W⟩ := h
  have ln : Ts.length = vs.length := by have := W.ln; simp at this; exact this
  refine ⟨fp, W.lg, ln, W.sl, fun k t' q => ?_, W.dj, W.sn, W.mu, W.fr, W.pn⟩
  have hl : k < Ts.length := (List.getElem?_eq_some_iff.mp q).1
  obtain ⟨v', r1, r2⟩ := W.tp k t' (by rw [app_left hl]; exact q)
  exact ⟨v', by rw [app_left (by omega)] at r1; exact r1, r2⟩
/-- less is told of the slots -/
theorem As.weak (h : As C Γ Ts σ vs H) (hl : Γ'.length = Γ.length) (w : ∀ (i : Nat) (m : M), Γ'[i]? = some (some m) → Γ[i]? = some (some m)) : As C Γ' Ts σ vs H := by
  obtain ⟨fp, W⟩ := h
  exact ⟨fp, hl.trans W.lg, W.ln, fun i m q => W.sl i m (w i m q), W.tp, W.dj, W.sn, W.mu, W.fr, W.pn⟩
/-- a name that is stored -/
theorem As.set (h : As C Γ (Ts ++ [.own m]) σ (vs ++ [v]) H) (hp : ∀ p ∈ C.pin, p.1 ≠ i) (hf : Free i Ts) : As C (Γ.set i (some m)) Ts (σ.set i (some v)) vs H := by
  obtain ⟨fp, W⟩ := h
  have ln : Ts.length = vs.length := by have := W.ln; simp at this; exact this
  obtain ⟨v1, hv, r⟩ := W.tp Ts.length _ app_last
  have ev : v1 = v := by
    rw [ln, app_last] at hv; exact (Option.some.inj hv).symm
  subst ev
  let fq : Sum Nat Nat → FS := fun y => if y = .inl i then fp (.inr Ts.length) else if y = .inr Ts.length then e0 else fp y
  have q1 : fq (.inl i) = fp (.inr Ts.length) := if_pos rfl
  have q0 : fq (.inr Ts.length) = e0 := (if_neg (fun z => nomatch z)).trans (if_pos rfl)
  have q2 : ∀ y, y ≠ .inl i → y ≠ .inr Ts.length → fq y = fp y := fun y h1 h2 => (if_neg h1).trans (if_neg h2)
  have le : ∀ y a, fq y a → (y = .inl i ∧ fp (.inr Ts.length) a) ∨ (y ≠ .inl i ∧ y ≠ .inr Ts.length ∧ fp y a) := fun y a ha => by
    by_cases h1 : y = .inl i
    · subst h1; rw [q1] at ha; exact .inl ⟨rfl, ha⟩
    · by_cases h2 : y = .inr Ts.length
      · subst h2; rw [q0] at ha; exact ha.elim
      · rw [q2 y h1 h2] at ha; exact .inr ⟨h1, h2, ha⟩
  refine ⟨fq, by simp [W.lg], ln, fun j mj q => ?_, fun k t q => ?_, fun x y hxy a ha hb => ?_, fun x a ha => ?_, fun x a ha => ?_, W.fr, fun p hp' => ?_⟩
  · by_cases e : j = i
    · subst e
      have hl : j < Γ.length := by
        have := (List.getElem?_eq_some_iff.mp q).1
        simpa using this
      rw [List.getElem?_set_self hl] at q
      cases q
      refine ⟨v1, ?_, by rw [q1]; exact r⟩
      rw [List.getElem?_set_self (by rw [← W.lg]; exact hl)]
    · rw [List.getElem?_set_ne (Ne.symm e)] at q
      obtain ⟨v', r1, r2⟩ := W.sl j mj q
      refine ⟨v', by rw [List.getElem?_set_ne (Ne.symm e)]; exact r1, ?_⟩
      rw [q2 (.inl j) (fun z => e (Sum.inl.inj z)) (fun z => nomatch z)]
      exact r2
  · have hl : k < Ts.length := (List.getElem?_eq_some_iff.mp q).1
    obtain ⟨v', r1, r2⟩ := W.tp k t (by rw [app_left hl]; exact q)
    refine ⟨v', by rw [app_left (by omega)] at r1; exact r1, ?_⟩
    rw [q2 (.inr k) (fun z => nomatch z) (fun z => by have := Sum.inr.inj z; omega)]
    exact rT.free (hf.of q) r2
  · rcases le x a ha with ⟨h1, h2⟩ | ⟨h1, h2, h3⟩
    · rcases le y a hb with ⟨g1, g2⟩ | ⟨g1, g2, g3⟩
      · exact hxy (h1.trans g1.symm)
      · exact W.dj _ _ (Ne.symm g2) a h2 g3
    · rcases le y a hb with ⟨g1, g2⟩ | ⟨g1, g2, g3⟩
      · exact W.dj _ _ h2 a h3 g2
      · exact W.dj _ _ hxy a h3 g3
  · rcases le x a ha with ⟨h1, h2⟩ | ⟨h1, h2, h3⟩
    · exact W.sn _ a h2
    · exact W.sn _ a h3
  · rcases le x a ha with ⟨h1, h2⟩ | ⟨h1, h2, h3⟩
    · exact W.mu _ a h2
    · exact W.mu _ a h3
  · rw [List.getElem?_set_ne (Ne.symm (hp p hp'))]
    exact W.pn p hp'
/-- a slot's content goes onto the stack -/
theorem As.take (h : As C Γ Ts σ vs H) (hj : Γ[j]? = some (some m)) : ∃ v, σ[j]? = some (some v) ∧ As C (Γ.set j none) (Ts ++ [.tk j m]) σ (vs ++ [v]) H := by
  obtain ⟨fp, W⟩ := h
  obtain ⟨v, hv, r⟩ := W.sl j m hj
  have ln := W.ln
  refine ⟨v, hv, ?_⟩
  let fq : Sum Nat Nat → FS := fun y => if y = .inr Ts.length then fp (.inl j) else if y = .inl j then e0 else if y = .inr Ts.length then e0 else fp y
  have q1 : fq (.inr Ts.length) = fp (.inl j) := if_pos rfl
  have q2 : ∀ y, y ≠ .inl j → y ≠ .inr Ts.length → fq y = fp y := fun y h1 h2 => (if_neg h2).trans ((if_neg h1).trans (if_neg h2))
  have q0 : fq (.inl j) = e0 := (if_neg (fun z => nomatch z)).trans (if_pos rfl)
  have le : ∀ y a, fq y a → (y = .inr Ts.length ∧ fp (.inl j) a) ∨ (y ≠ .inl j ∧ y ≠ .inr Ts.length ∧ fp y a) := fun y a ha => by
    by_cases h1 : y = .inr Ts.length
    · subst h1; rw [q1] at ha; exact .inl ⟨rfl, ha⟩
    · by_cases h2 : y = .inl j
      · subst h2; rw [q0] at ha; exact ha.elim
      · rw [q2 y h2 h1] at ha; exact .inr ⟨h2, h1, ha⟩
  refine ⟨fq, by simp [W.lg], by simp [ln], fun i mi q => ?_, fun k t q => ?_, fun x y hxy a ha hb => ?_, fun x a ha => ?_, fun x a ha => ?_, W.fr, W.pn⟩
  · by_cases e : i = j
    · subst e
      have hl : i < Γ.length := (List.getElem?_eq_some_iff.mp hj).1
      rw [List.getElem?_set_self hl] at q
      cases q
    · rw [List.getElem?_set_ne (Ne.symm e)] at q
      obtain ⟨v', r1, r2⟩ := W.sl i mi q
      exact ⟨v', r1, by rw [q2 (.inl _) (fun z => e (Sum.inl.inj z)) (fun z => nomatch z)]; exact r2⟩
  · rcases app_get q with ⟨q, hl⟩ | ⟨z1, z2⟩
    · obtain ⟨v', r1, r2⟩ := W.tp k t q
      refine ⟨v', by rw [app_left (by omega)]; exact r1, ?_⟩
      rw [q2 (.inr k) (fun z => nomatch z) (fun z => by have := Sum.inr.inj z; omega)]
      exact r2
    · subst z1 z2
      exact ⟨v, by rw [ln]; exact app_last, by rw [q1]; exact ⟨hv, r⟩⟩
  · rcases le x a ha with ⟨h1, h2⟩ | ⟨h1, h2, h3⟩
    · rcases le y a hb with ⟨g1, g2⟩ | ⟨g1, g2, g3⟩
      · exact hxy (h1.trans g1.symm)
      · exact W.dj _ _ (Ne.symm g1) a h2 g3
    · rcases le y a hb with ⟨g1, g2⟩ | ⟨g1, g2, g3⟩
      · exact W.dj _ _ h1 a h3 g2
      · exact W.dj _ _ hxy a h3 g3
  · rcases le x a ha with ⟨h1, h2⟩ | ⟨h1, h2, h3⟩
    · exact W.sn _ a h2
    · exact W.sn _ a h3
  · rcases le x a ha with ⟨h1, h2⟩ | ⟨h1, h2, h3⟩
    · exact W.mu _ a h2
    · exact W.mu _ a h3
/-- and back -/
theorem As.put (h : As C Γ (Ts ++ [.tk j m]) σ (vs ++ [v]) H) : As C (Γ.set j (some m)) Ts σ vs H := by
  obtain ⟨fp, W⟩ := h
  have ln : Ts.length = vs.length := by have := W.ln; simp at this; exact this
  obtain ⟨v1, hv, hj, r⟩ := W.tp Ts.length _ app_last
  have ev : v1 = v := by
    rw [ln, app_last] at hv; exact (Option.some.inj hv).symm
  subst ev
  let fq : Sum Nat Nat → FS := fun y => if y = .inl j then fp (.inr Ts.length) else if y = .inr Ts.length then e0 else fp y
  have q1 : fq (.inl j) = fp (.inr Ts.length) := if_pos rfl
  have q2 : ∀ y, y ≠ .inl j → y ≠ .inr Ts.length → fq y = fp y := fun y h1 h2 => (if_neg h1).trans (if_neg h2)
  have q0 : fq (.inr Ts.length) = e0 := (if_neg (fun z => nomatch z)).trans (if_pos rfl)
  have le : ∀ y a, fq y a → (y = .inl j ∧ fp (.inr Ts.length) a) ∨ (y ≠ .inl j ∧ y ≠ .inr Ts.length ∧ fp y a) := fun y a ha => by
    by_cases h1 : y = .inl j
    · subst h1; rw [q1] at ha; exact .inl ⟨rfl, ha⟩
    · by_cases h2 : y = .inr Ts.length
      · subst h2; rw [q0] at ha; exact ha.elim
      · rw [q2 y h1 h2] at ha; exact .inr ⟨h1, h2, ha⟩
  refine ⟨fq, by simp [W.lg], ln, fun i mi q => ?_, fun k t q => ?_, fun x y hxy a ha hb => ?_, fun x a ha => ?_, fun x a ha => ?_, W.fr, W.pn⟩
  · by_cases e : i = j
    · subst e
      have hl : i < Γ.length := by
        have := (List.getElem?_eq_some_iff.mp q).1
        simpa using this
      rw [List.getElem?_set_self hl] at q
      cases q
      exact ⟨v1, hj, by rw [q1]; exact r⟩
    · rw [List.getElem?_set_ne (Ne.symm e)] at q
      obtain ⟨v', r1, r2⟩ := W.sl i mi q
      exact ⟨v', r1, by rw [q2 (.inl _) (fun z => e (Sum.inl.inj z)) (fun z => nomatch z)]; exact r2⟩
  · have hl : k < Ts.length := (List.getElem?_eq_some_iff.mp q).1
    obtain ⟨v', r1, r2⟩ := W.tp k t (by rw [app_left hl]; exact q)
    refine ⟨v', by rw [app_left (by omega)] at r1; exact r1, ?_⟩
    rw [q2 (.inr k) (fun z => nomatch z) (fun z => by have := Sum.inr.inj z; omega)]
    exact r2
  · rcases le x a ha with ⟨h1, h2⟩ | ⟨h1, h2, h3⟩
    · rcases le y a hb with ⟨g1, g2⟩ | ⟨g1, g2, g3⟩
      · exact hxy (h1.trans g1.symm)
      · exact W.dj _ _ (Ne.symm g2) a h2 g3
    · rcases le y a hb with ⟨g1, g2⟩ | ⟨g1, g2, g3⟩
      · exact W.dj _ _ h2 a h3 g2
      · exact W.dj _ _ hxy a h3 g3
  · rcases le x a ha with ⟨h1, h2⟩ | ⟨h1, h2, h3⟩
    · exact W.sn _ a h2
    · exact W.sn _ a h3
  · rcases le x a ha with ⟨h1, h2⟩ | ⟨h1, h2, h3⟩
    · exact W.mu _ a h2
    · exact W.mu _ a h3
/-- a value taken out of a slot is on its own from now on -/
theorem As.free (h : As C Γ (Ts ++ [.tk j m]) σ (vs ++ [v]) H) : As C Γ (Ts ++ [.own m]) σ (vs ++ [v]) H := by
  obtain ⟨F, r, q⟩ := h.top
  exact q (.own m) v H F TF.refl (fun _ _ _ => rfl) r.2 (fun a ha => .inl ha) fun a ha => rM.mut r.2 ha
/-- another name of a slot -/
theorem As.alias (h : As C Γ Ts σ vs H) (hj : Γ[j]? = some (some m)) : ∃ v, σ[j]? = some (some v) ∧ As C Γ (Ts ++ [.al j]) σ (vs ++ [v]) H := by
  obtain ⟨v, F, hv, r, _⟩ := h.slot hj
  exact ⟨v, hv, h.push Ext.refl (t := .al j) (F := e0) ⟨hv, fun a z => z⟩ (fun a z => z.elim) fun a z => z.elim⟩
/-- data in a slot -/
theorem As.slotIm {d : D} (h : As C Γ Ts σ vs H) (hi : Γ[i]? = some (some (.im d))) : ∃ v, σ[i]? = some (some v) ∧ rD C.K d v H := by
  obtain ⟨v, F, hv, r, _⟩ := h.slot hi
  unfold rM at r
  exact ⟨v, hv, r.1⟩
theorem As.pushIm {d : D} (h : As C Γ Ts σ vs H) (e : Ext H H') (r : rD C.K d v H') : As C Γ (Ts ++ [.im d]) σ (vs ++ [v]) H' :=
  h.push e (t := .im d) (F := e0) (by show rM _ _ _ _ _; unfold rM; exact ⟨r, fun a z => z⟩) (fun a z => z.elim) fun a z => z.elim
theorem As.topIm {d : D} (h : As C Γ (Ts ++ [.im d]) σ (vs ++ [v]) H) : rD C.K d v H := by
  obtain ⟨F, r, _⟩ := h.top
  have r' : rM C.K (.im d) v H F := r
  unfold rM at r'
  exact r'.1
/-- what lies on top may be told with its value -/
theorem As.hide (h : As C Γ (Ts ++ [.own m]) σ (vs ++ [v]) H) : As C Γ (Ts ++ [.hid m v]) σ (vs ++ [v]) H := by
  obtain ⟨F, r, q⟩ := h.top
  have r' : rM C.K m v H F := r
  exact q (.hid m v) v H F TF.refl (fun _ _ _ => rfl) ⟨rfl, r'⟩ (fun a ha => .inl ha) fun a ha => rM.mut r' ha
theorem As.hideAl (h : As C Γ (Ts ++ [.al j]) σ (vs ++ [v]) H) : As C Γ (Ts ++ [.hal j v]) σ (vs ++ [v]) H := by
  obtain ⟨F, r, q⟩ := h.top
  exact q (.hal j v) v H F TF.refl (fun _ _ _ => rfl) ⟨rfl, r⟩ (fun a ha => .inl ha) fun a ha => absurd ha (r.2 a)
theorem As.setIm {d : D} (h : As C Γ Ts σ vs H) (r : rD C.K d v H) (hp : ∀ p ∈ C.pin, p.1 ≠ i) (hf : Free i Ts) : As C (Γ.set i (some (.im d))) Ts (σ.set i (some v)) vs H := (h.pushIm Ext.refl r).set hp hf
/-- other values in slots of which nothing is told -/
theorem As.sig {σ' : St} {J : List Nat} (h : As C Γ Ts σ vs H) (hl : σ'.length = σ.length) (e : ∀ i, i ∉ J → σ'[i]? = σ[i]?) (hΓ : ∀ i ∈ J, ∀ m, Γ[i]? ≠ some (some m)) (hT : ∀ i ∈ J, Free i Ts) (hp : ∀ p ∈ C.pin, p.1 ∉ J) : As C Γ Ts σ' vs H := by
  obtain ⟨fp, W⟩ := h
  refine ⟨fp, W.lg.trans hl.symm, W.ln, fun i m q => ?_, fun k t q => ?_, W.dj, W.sn, W.mu, W.fr, fun p hp' => ?_⟩
  · obtain ⟨v, r1, r2⟩ := W.sl i m q
    exact ⟨v, by rw [e i (fun z => hΓ i z m q)]; exact r1, r2⟩
  · obtain ⟨v, r1, r2⟩ := W.tp k t q
    refine ⟨v, r1, ?_⟩
    cases t with
    | own m => exact r2
    | hid m v0 => exact r2
    | hip v0 P s => exact r2
    | tk j m => exact ⟨by rw [e j (fun z => (hT j z).of q rfl)]; exact r2.1, r2.2⟩
    | al j => exact ⟨by rw [e j (fun z => (hT j z).of q rfl)]; exact r2.1, r2.2⟩
    | hal j v0 => exact ⟨r2.1, by rw [e j (fun z => (hT j z).of q rfl)]; exact r2.2.1, r2.2.2⟩
  · rw [e p.1 (hp p hp')]
    exact W.pn p hp'
/-- what lies under the top goes -/
theorem As.mid {t' : T} (h : As C Γ (Ts ++ [t] ++ [t']) σ (vs ++ [v] ++ [w]) H) : As C Γ (Ts ++ [t']) σ (vs ++ [w]) H := by
  obtain ⟨fp, W⟩ := h
  have ln : Ts.length = vs.length := by have := W.ln; simp at this; exact this
  let fq : Sum Nat Nat → FS := fun y => if y = .inr Ts.length then fp (.inr (Ts.length + 1)) else if y = .inr (Ts.length + 1) then e0 else fp y
  have q1 : fq (.inr Ts.length) = fp (.inr (Ts.length + 1)) := if_pos rfl
  have q0 : fq (.inr (Ts.length + 1)) = e0 := (if_neg (fun z => by have := Sum.inr.inj z; omega)).trans (if_pos rfl)
  have q2 : ∀ y, y ≠ .inr Ts.length → y ≠ .inr (Ts.length + 1) → fq y = fp y := fun y h1 h2 => (if_neg h1).trans (if_neg h2)
  have le : ∀ y a, fq y a → (y = .inr Ts.length ∧ fp (.inr (Ts.length + 1)) a) ∨ (y ≠ .inr Ts.length ∧ y ≠ .inr (Ts.length + 1) ∧ fp y a) := fun y a ha => by
    by_cases h1 : y = .inr Ts.length
    · subst h1; rw [q1] at ha; exact .inl ⟨rfl, ha⟩
    · by_cases h2 : y = .inr (Ts.length + 1)
      · subst h2; rw [q0] at ha; exact ha.elim
      · rw [q2 y h1 h2] at ha; exact .inr ⟨h1, h2, ha⟩
  refine ⟨fq, W.lg, by simp [ln], fun i m q => ?_, fun k t1 q => ?_, fun x y hxy a ha hb => ?_, fun x a ha => ?_, fun x a ha => ?_, W.fr, W.pn⟩
  · obtain ⟨v', r1, r2⟩ := W.sl i m q
    exact ⟨v', r1, by rw [q2 (.inl i) (fun z => nomatch z) (fun z => nomatch z)]; exact r2⟩
  · rcases app_get q with ⟨q, hl⟩ | ⟨z1, z2⟩
    · obtain ⟨v', r1, r2⟩ := W.tp k t1 (by rw [app_left (by simp; omega), app_left hl]; exact q)
      rw [app_left (by simp; omega), app_left (by omega)] at r1
      refine ⟨v', by rw [app_left (by omega)]; exact r1, ?_⟩
      rw [q2 (.inr k) (fun z => by have := Sum.inr.inj z; omega) (fun z => by have := Sum.inr.inj z; omega)]
      exact r2
    · subst z1 z2
      obtain ⟨v', r1, r2⟩ := W.tp (Ts.length + 1) t1 (by simp)
      have ev : v' = w := by
        have e2 : (vs ++ [v] ++ [w])[Ts.length + 1]? = some w := by rw [ln]; simp
        rw [e2] at r1; exact (Option.some.inj r1).symm
      subst ev
      exact ⟨v', by rw [ln]; exact app_last, by rw [q1]; exact r2⟩
  · rcases le x a ha with ⟨h1, h2⟩ | ⟨h1, h2, h3⟩
    · rcases le y a hb with ⟨g1, g2⟩ | ⟨g1, g2, g3⟩
      · exact hxy (h1.trans g1.symm)
      · exact W.dj _ _ (Ne.symm g2) a h2 g3
    · rcases le y a hb with ⟨g1, g2⟩ | ⟨g1, g2, g3⟩
      · exact W.dj _ _ h2 a h3 g2
      · exact W.dj _ _ hxy a h3 g3
  · rcases le x a ha with ⟨h1, h2⟩ | ⟨h1, h2, h3⟩
    · exact W.sn _ a h2
    · exact W.sn _ a h3
  · rcases le x a ha with ⟨h1, h2⟩ | ⟨h1, h2, h3⟩
    · exact W.mu _ a h2
    · exact W.mu _ a h3
theorem As.lnx (h : As C Γ (Ts ++ [t]) σ vs H) : ∃ us u, vs = us ++ [u] := by
  obtain ⟨fp, W⟩ := h
  have := W.ln
  rcases List.eq_nil_or_concat vs with e | ⟨us, u, e⟩
  · subst e; simp at this
  · exact ⟨us, u, by rw [e]; simp⟩
end
end RL

set_option maxHeartbeats 2000000
/-! RL3: several values at once (a call's arguments), readings of expressions, tests, statements -/
namespace RL
open PySem L2

/-- the datum on the stack (none for another name of a slot) -/
def T.mo : T → Option M
  | .own m => some m
  | .tk _ m => some m
  | .al _ => none
  | .hid _ _ => none
  | .hal _ _ => none
  | .hip _ _ _ => none
section
variable {C : Cn} {Γ Γ' : Ctx} {Ts Ts' : List T} {σ σ' : St} {vs vs' : List V} {H H' : Hp} {i j : Nat} {m m' : M} {t : T} {v w : V} {F F' : FS} {fp fq : Sum Nat Nat → FS}

/-- what is borne, several values at once, in the place of the last value of the stack -/
structure AsB (C : Cn) (Γ : Ctx) (Ts : List T) (σ : St) (vs : List V) (ms : List M) (us : List V) (H : Hp) (fp : Sum Nat Nat → FS) (G : FS) : Prop where
  w : AsW C Γ Ts σ vs H fp
  r : rMs C.K ms us H G
  d : ∀ x, Dj (fp x) G
  s : ∀ a, G a → C.io a ∨ C.H0 a = none
theorem rMs.im {K : PySem.W.Frag} : ∀ {ds : List D} {us : List V} {F : FS}, rDs K ds us H → (∀ a, ¬ F a) → rMs K (ds.map M.im) us H F
  | [], us, F, h, f => by unfold rDs at h; show rMs K [] us H F; unfold rMs; exact ⟨h, f⟩
  | d :: ds, us, F, h, f => by
    unfold rDs at h
    obtain ⟨w, ws, e, r, s⟩ := h
    show rMs K (M.im d :: ds.map M.im) us H F
    unfold rMs
    exact ⟨w, ws, e0, e0, e, by unfold rM; exact ⟨r, fun _ z => z⟩, rMs.im s (fun _ z => z), Dj.e0l, fun a => ⟨fun z => absurd z (f a), fun z => z.elim (fun z => z.elim) fun z => z.elim⟩⟩
theorem rMs.imD {K : PySem.W.Frag} : ∀ {ds : List D} {us : List V} {F : FS}, rMs K (ds.map M.im) us H F → rDs K ds us H
  | [], us, F, h => by have h : rMs K [] us H F := h; unfold rMs at h; unfold rDs; exact h.1
  | d :: ds, us, F, h => by
    have h : rMs K (M.im d :: ds.map M.im) us H F := h
    unfold rMs at h
    obtain ⟨w, ws, F1, F2, e, r, s, _⟩ := h
    unfold rM at r
    unfold rDs
    exact ⟨w, ws, e, r.1, rMs.imD s⟩
theorem AsB.nil (W : AsW C Γ Ts σ vs H fp) : AsB C Γ Ts σ vs [] [] H fp e0 := ⟨W, by unfold rMs; exact ⟨rfl, fun _ z => z⟩, fun _ => Dj.e0r, fun _ z => z.elim⟩
/-- the last value goes in at the head -/
theorem AsB.cons {ms : List M} {us : List V} {G : FS} (h : AsB C Γ (Ts ++ [t]) σ (vs ++ [v]) ms us H fp G) (r : rM C.K m v H (fp (.inr Ts.length))) :
    ∃ fq G', AsB C Γ Ts σ vs (m :: ms) (v :: us) H fq G' := by
  have W := h.w
  have ln : Ts.length = vs.length := by have := W.ln; simp at this; exact this
  let fq : Sum Nat Nat → FS := fun y => if y = .inr Ts.length then e0 else fp y
  have q0 : fq (.inr Ts.length) = e0 := if_pos rfl
  have q1 : ∀ y, y ≠ .inr Ts.length → fq y = fp y := fun y h => if_neg h
  have le : ∀ y a, fq y a → y ≠ .inr Ts.length ∧ fp y a := fun y a ha => by
    by_cases h1 : y = .inr Ts.length
    · subst h1; rw [q0] at ha; exact ha.elim
    · rw [q1 y h1] at ha; exact ⟨h1, ha⟩
  refine ⟨fq, fun a => fp (.inr Ts.length) a ∨ G a, ⟨W.lg, ln, fun i mi q => ?_, fun k t q => ?_, fun x y hxy a ha hb => W.dj x y hxy a (le x a ha).2 (le y a hb).2, fun x a ha => W.sn x a (le x a ha).2, fun x a ha => W.mu x a (le x a ha).2, W.fr, W.pn⟩, ?_, fun x a ha hb => ?_, fun a ha => ?_⟩
  · obtain ⟨v', r1, r2⟩ := W.sl i mi q
    exact ⟨v', r1, by rw [q1 (.inl i) (fun z => nomatch z)]; exact r2⟩
  · have hl : k < Ts.length := (List.getElem?_eq_some_iff.mp q).1
    obtain ⟨v', r1, r2⟩ := W.tp k t (by rw [app_left hl]; exact q)
    refine ⟨v', by rw [app_left (by omega)] at r1; exact r1, ?_⟩
    rw [q1 (.inr k) (fun z => by have := Sum.inr.inj z; omega)]
    exact r2
  · unfold rMs
    exact ⟨v, us, fp (.inr Ts.length), G, rfl, r, h.r, h.d _, fun a => Iff.rfl⟩
  · obtain ⟨h1, h2⟩ := le x a ha
    rcases hb with hb | hb
    · exact W.dj _ _ h1 a h2 hb
    · exact h.d x a h2 hb
  · rcases ha with ha | ha
    · exact W.sn _ a ha
    · exact h.s a ha
/-- the head goes onto the stack -/
theorem AsB.uncons {ms : List M} {us : List V} {u : V} {G : FS} (h : AsB C Γ Ts σ vs (m :: ms) (u :: us) H fp G) : ∃ fq G', AsB C Γ (Ts ++ [.own m]) σ (vs ++ [u]) ms us H fq G' := by
  have W := h.w
  have ln := W.ln
  have r := h.r
  unfold rMs at r
  obtain ⟨w, ws, F1, F2, e, r1, r2, dj, f⟩ := r
  cases e
  let fq : Sum Nat Nat → FS := fun y => if y = .inr Ts.length then F1 else fp y
  have q0 : fq (.inr Ts.length) = F1 := if_pos rfl
  have q1 : ∀ y, y ≠ .inr Ts.length → fq y = fp y := fun y h => if_neg h
  have le : ∀ y a, fq y a → (y = .inr Ts.length ∧ F1 a) ∨ (y ≠ .inr Ts.length ∧ fp y a) := fun y a ha => by
    by_cases h1 : y = .inr Ts.length
    · subst h1; rw [q0] at ha; exact .inl ⟨rfl, ha⟩
    · rw [q1 y h1] at ha; exact .inr ⟨h1, ha⟩
  refine ⟨fq, F2, ⟨W.lg, by simp [ln], fun i mi q => ?_, fun k t q => ?_, fun x y hxy a ha hb => ?_, fun x a ha => ?_, fun x a ha => ?_, W.fr, W.pn⟩, r2, fun x a ha hb => ?_, fun a ha => h.s a ((f a).2 (.inr ha))⟩
  · obtain ⟨v', z1, z2⟩ := W.sl i mi q
    exact ⟨v', z1, by rw [q1 (.inl i) (fun z => nomatch z)]; exact z2⟩
  · rcases app_get q with ⟨q, hl⟩ | ⟨z1, z2⟩
    · obtain ⟨v', s1, s2⟩ := W.tp k t q
      refine ⟨v', by rw [app_left (by omega)]; exact s1, ?_⟩
      rw [q1 (.inr k) (fun z => by have := Sum.inr.inj z; omega)]
      exact s2
    · subst z1 z2
      exact ⟨u, by rw [ln]; exact app_last, by rw [q0]; exact r1⟩
  · rcases le x a ha with ⟨h1, h2⟩ | ⟨h1, h2⟩
    · rcases le y a hb with ⟨g1, g2⟩ | ⟨g1, g2⟩
      · exact hxy (h1.trans g1.symm)
      · exact h.d y a g2 ((f a).2 (.inl h2))
    · rcases le y a hb with ⟨g1, g2⟩ | ⟨g1, g2⟩
      · exact h.d x a h2 ((f a).2 (.inl g2))
      · exact W.dj x y hxy a h2 g2
  · rcases le x a ha with ⟨h1, h2⟩ | ⟨h1, h2⟩
    · exact h.s a ((f a).2 (.inl h2))
    · exact W.sn x a h2
  · rcases le x a ha with ⟨h1, h2⟩ | ⟨h1, h2⟩
    · exact rM.mut r1 h2
    · exact W.mu x a h2
  · rcases le x a ha with ⟨h1, h2⟩ | ⟨h1, h2⟩
    · exact dj a h2 hb
    · exact h.d x a h2 ((f a).2 (.inr hb))
/-- what the several bear is changed -/
theorem AsB.chg {ms ms' : List M} {us us' : List V} {G G' : FS} (h : AsB C Γ Ts σ vs ms us H fp G) (f : Frm H G H') (r' : rMs C.K ms' us' H' G') (n : ∀ a, G' a → G a ∨ H a = none) : AsB C Γ Ts σ vs ms' us' H' fp G' := by
  have W := h.w
  have tf : TF H H' := f.tf fun a ha => rMs.mut h.r ha
  have k1 : ∀ x a, fp x a → H' a = H a := fun x a ha => by
    obtain ⟨u, hu⟩ := mut_some (W.mu x a ha)
    rw [hu]; exact f a u hu fun g => h.d x a ha g
  refine ⟨⟨W.lg, W.ln, fun i mi q => ?_, fun k t q => ?_, W.dj, W.sn, fun x a ha => by rw [k1 x a ha]; exact W.mu x a ha, fun a o q ni => ?_, W.pn⟩, r', fun x a ha hb => ?_, fun a ha => ?_⟩
  · obtain ⟨v', z1, z2⟩ := W.sl i mi q
    exact ⟨v', z1, rM.st tf (k1 _) z2⟩
  · obtain ⟨v', z1, z2⟩ := W.tp k t q
    exact ⟨v', z1, rT.st tf (k1 _) z2⟩
  · refine f a o (W.fr a o q ni) fun g => ?_
    rcases h.s a g with z | z
    · exact ni z
    · rw [q] at z; cases z
  · rcases n a hb with z | z
    · exact h.d x a ha z
    · obtain ⟨u, hu⟩ := mut_some (W.mu x a ha)
      rw [hu] at z; cases z
  · rcases n a ha with z | z
    · exact h.s a z
    · by_cases hi : C.io a
      · exact .inl hi
      · refine .inr ?_
        cases q : C.H0 a with
        | none => rfl
        | some o => rw [W.fr a o q hi] at z; cases z
theorem As.blob : ∀ {ts : List T} {ms : List M} {us : List V} {Ts : List T} {vs : List V}, ts.map T.mo = ms.map some → us.length = ts.length → As C Γ (Ts ++ ts) σ (vs ++ us) H →
    ∃ fp G, AsB C Γ Ts σ vs ms us H fp G ∧ ∀ (k j : Nat) (m : M), ts[k]? = some (.tk j m) → ∃ u, us[k]? = some u ∧ σ[j]? = some (some u)
  | [], [], us, Ts, vs, e, hl, ⟨fp, W⟩ => by
    have : us = [] := List.length_eq_zero_iff.mp hl
    subst this
    simp at W
    exact ⟨fp, e0, AsB.nil W, fun k j m q => by simp at q⟩
  | [], m :: ms, us, Ts, vs, e, hl, h => by simp at e
  | t :: ts, [], us, Ts, vs, e, hl, h => by simp at e
  | t :: ts, m :: ms, [], Ts, vs, e, hl, h => by simp at hl
  | t :: ts, m :: ms, u :: us, Ts, vs, e, hl, h => by
    have h' : As C Γ ((Ts ++ [t]) ++ ts) σ ((vs ++ [u]) ++ us) H := by simpa using h
    simp only [List.map_cons, List.cons.injEq] at e
    obtain ⟨fp, G, B, q⟩ := As.blob (ts := ts) (ms := ms) e.2 (by simpa using hl) h'
    have ln : Ts.length = vs.length := by have := B.w.ln; simp at this; exact this
    obtain ⟨v1, hv, r⟩ := B.w.tp Ts.length t app_last
    have ev : v1 = u := by rw [ln, app_last] at hv; exact (Option.some.inj hv).symm
    subst ev
    have rm : rM C.K m v1 H (fp (.inr Ts.length)) := by
      cases t with
      | own m' => cases e.1; exact r
      | tk j m' => cases e.1; exact r.2
      | al j => cases e.1
      | hid _ _ => cases e.1
      | hal _ _ => cases e.1
      | hip _ _ _ => cases e.1
    obtain ⟨fq, G', B'⟩ := B.cons rm
    refine ⟨fq, G', B', fun k j m' hk => ?_⟩
    cases k with
    | zero =>
      simp at hk
      subst hk
      exact ⟨v1, rfl, r.1⟩
    | succ k => exact q k j m' (by simpa using hk)
theorem AsB.as {ms : List M} {us : List V} {G : FS} (h : AsB C Γ Ts σ vs ms us H fp G) : As C Γ Ts σ vs H := ⟨fp, h.w⟩
/-- the slots take back what was taken out of them -/
def putAll : Ctx → List (Option Nat) → List M → Ctx
  | Γ, [], _ => Γ
  | Γ, _, [] => Γ
  | Γ, some j :: js, m :: ms => putAll (Γ.set j (some m)) js ms
  | Γ, none :: js, _ :: ms => putAll Γ js ms
theorem AsB.putAll : ∀ {js : List (Option Nat)} {ms : List M} {us : List V} {Γ : Ctx} {fp : Sum Nat Nat → FS} {G : FS}, AsB C Γ Ts σ vs ms us H fp G →
    (∀ (k j : Nat), js[k]? = some (some j) → ∃ u, us[k]? = some u ∧ σ[j]? = some (some u)) → As C (putAll Γ js ms) Ts σ vs H
  | [], ms, us, Γ, fp, G, B, q => by unfold RL.putAll; exact B.as
  | j :: js, [], us, Γ, fp, G, B, q => by unfold RL.putAll; exact B.as
  | j :: js, m :: ms, us, Γ, fp, G, B, q => by
    have hus : ∃ u us', us = u :: us' := by
      have r := B.r
      unfold rMs at r
      obtain ⟨w, ws, _, _, e, _⟩ := r
      exact ⟨w, ws, e⟩
    obtain ⟨u, us', rfl⟩ := hus
    obtain ⟨fq, G', B'⟩ := B.uncons
    cases j with
    | none =>
      unfold RL.putAll
      have W := B'.w
      have ln : Ts.length = vs.length := by have := W.ln; simp at this; exact this
      refine AsB.putAll (fp := fq) (G := G') ⟨⟨W.lg, ln, W.sl, fun k t hk => ?_, W.dj, W.sn, W.mu, W.fr, W.pn⟩, B'.r, B'.d, B'.s⟩ fun k j hk => q (k + 1) j (by simpa using hk)
      have hl : k < Ts.length := (List.getElem?_eq_some_iff.mp hk).1
      obtain ⟨v', r1, r2⟩ := W.tp k t (by rw [app_left hl]; exact hk)
      exact ⟨v', by rw [app_left (by omega)] at r1; exact r1, r2⟩
    | some j =>
      unfold RL.putAll
      obtain ⟨u', hu', hσ⟩ := q 0 j rfl
      cases hu'
      have W := B'.w
      have ln : Ts.length = vs.length := by have := W.ln; simp at this; exact this
      obtain ⟨v1, hv, r⟩ := W.tp Ts.length _ app_last
      have ev : v1 = u := by rw [ln, app_last] at hv; exact (Option.some.inj hv).symm
      subst ev
      -- the value on top goes to the slot j, the rest stays
      let fz : Sum Nat Nat → FS := fun y => if y = .inl j then fq (.inr Ts.length) else if y = .inr Ts.length then e0 else fq y
      have q1 : fz (.inl j) = fq (.inr Ts.length) := if_pos rfl
      have q0 : fz (.inr Ts.length) = e0 := (if_neg (fun z => nomatch z)).trans (if_pos rfl)
      have q2 : ∀ y, y ≠ .inl j → y ≠ .inr Ts.length → fz y = fq y := fun y h1 h2 => (if_neg h1).trans (if_neg h2)
      have le : ∀ y a, fz y a → (y = .inl j ∧ fq (.inr Ts.length) a) ∨ (y ≠ .inl j ∧ y ≠ .inr Ts.length ∧ fq y a) := fun y a ha => by
        by_cases h1 : y = .inl j
        · subst h1; rw [q1] at ha; exact .inl ⟨rfl, ha⟩
        · by_cases h2 : y = .inr Ts.length
          · subst h2; rw [q0] at ha; exact ha.elim
          · rw [q2 y h1 h2] at ha; exact .inr ⟨h1, h2, ha⟩
      have ex : ∀ y a, fz y a → ∃ x, fq x a := fun y a ha => by
        rcases le y a ha with ⟨_, h⟩ | ⟨_, _, h⟩
        · exact ⟨_, h⟩
        · exact ⟨_, h⟩
      refine AsB.putAll (fp := fz) (G := G') ⟨⟨by simp [W.lg], ln, fun i mi hi => ?_, fun k t hk => ?_, fun x y hxy a ha hb => ?_, fun x a ha => ?_, fun x a ha => ?_, W.fr, W.pn⟩, B'.r, fun x a ha hb => ?_, B'.s⟩ fun k j hk => q (k + 1) j (by simpa using hk)
      · by_cases e : i = j
        · subst e
          have hl : i < Γ.length := by
            have := (List.getElem?_eq_some_iff.mp hi).1
            simpa using this
          rw [List.getElem?_set_self hl] at hi
          cases hi
          exact ⟨v1, hσ, by rw [q1]; exact r⟩
        · rw [List.getElem?_set_ne (Ne.symm e)] at hi
          obtain ⟨v', r1, r2⟩ := W.sl i mi hi
          exact ⟨v', r1, by rw [q2 (.inl i) (fun z => e (Sum.inl.inj z)) (fun z => nomatch z)]; exact r2⟩
      · have hl : k < Ts.length := (List.getElem?_eq_some_iff.mp hk).1
        obtain ⟨v', r1, r2⟩ := W.tp k t (by rw [app_left hl]; exact hk)
        refine ⟨v', by rw [app_left (by omega)] at r1; exact r1, ?_⟩
        rw [q2 (.inr k) (fun z => nomatch z) (fun z => by have := Sum.inr.inj z; omega)]
        exact r2
      · rcases le x a ha with ⟨h1, h2⟩ | ⟨h1, h2, h3⟩
        · rcases le y a hb with ⟨g1, g2⟩ | ⟨g1, g2, g3⟩
          · exact hxy (h1.trans g1.symm)
          · exact W.dj _ _ (Ne.symm g2) a h2 g3
        · rcases le y a hb with ⟨g1, g2⟩ | ⟨g1, g2, g3⟩
          · exact W.dj _ _ h2 a h3 g2
          · exact W.dj _ _ hxy a h3 g3
      · obtain ⟨y, h⟩ := ex x a ha
        exact W.sn y a h
      · obtain ⟨y, h⟩ := ex x a ha
        exact W.mu y a h
      · obtain ⟨y, h⟩ := ex x a ha
        exact B'.d y a h hb
end

/-! ### readings -/
def er (C : Cn) (Γ : Ctx) (Ts : List T) (Γ' : Ctx) (t : T) : TE := fun σ H Q => ∃ vs, As C Γ Ts σ vs H ∧ ∀ v H', As C Γ' (Ts ++ [t]) σ (vs ++ [v]) H' → Q v H'
def tr (C : Cn) (Γ : Ctx) (Ts : List T) (Γ' : Ctx) (b : Bool) : TT := fun σ H Q => ∃ vs, As C Γ Ts σ vs H ∧ ∀ H', As C Γ' Ts σ vs H' → Q b H'
def ar (C : Cn) (Γ : Ctx) (Ts : List T) (Γ' : Ctx) (ts : List T) : TA := fun σ H Q => ∃ vs, As C Γ Ts σ vs H ∧ ∀ us H', us.length = ts.length → As C Γ' (Ts ++ ts) σ (vs ++ us) H' → Q us H'
abbrev EE (X : Cx) (C : Cn) (Γ : Ctx) (Ts : List T) (e : Expr) (Γ' : Ctx) (t : T) : Prop := PE X e (er C Γ Ts Γ' t)
abbrev ET (X : Cx) (C : Cn) (Γ : Ctx) (Ts : List T) (e : Expr) (Γ' : Ctx) (b : Bool) : Prop := PT X e (tr C Γ Ts Γ' b)
abbrev EW (X : Cx) (C : Cn) (Γ : Ctx) (Ts : List T) (e : Expr) (Γ' : Ctx) (b : Bool) : Prop := PW X e (tr C Γ Ts Γ' b)
abbrev EA (X : Cx) (C : Cn) (Γ : Ctx) (Ts : List T) (es : List Expr) (Γ' : Ctx) (ts : List T) : Prop := PA X es (ar C Γ Ts Γ' ts)
/-- how a statement or a block ends -/
inductive O where
  | nx (Γ : Ctx) | bk (Γ : Ctx) | ct (Γ : Ctx) | rt (Γ : Ctx) (m : M)
def Cont (C : Cn) (Hs : List T) (o : O) (D : Ends) : Prop := match o with
  | .nx Γ => ∀ σ hs H, As C Γ Hs σ hs H → D.nx σ H
  | .bk Γ => ∀ σ hs H, As C Γ Hs σ hs H → D.bk σ H
  | .ct Γ => ∀ σ hs H, As C Γ Hs σ hs H → D.ct σ H
  | .rt Γ m => ∀ σ hs v H, As C Γ (Hs ++ [.own m]) σ (hs ++ [v]) H → D.rt v H
def sr (C : Cn) (Hs : List T) (Γ : Ctx) (o : O) : TS := fun D σ H => (∃ hs, As C Γ Hs σ hs H) ∧ Cont C Hs o D
abbrev SS (X : Cx) (C : Cn) (Hs : List T) (Γ : Ctx) (sts : List Stmt) (o : O) : Prop := PSs X sts (sr C Hs Γ o)
abbrev S1 (X : Cx) (C : Cn) (Hs : List T) (Γ : Ctx) (st : Stmt) (o : O) : Prop := PS X st (sr C Hs Γ o)

theorem _root_.L2.PE.wk {X : Cx} {e : Expr} {t t' : TE} (h : PE X e t) (w : ∀ σ H Q, t' σ H Q → t σ H Q) : PE X e t' := ⟨fun pins s σ H Q I q => h.run pins s σ H Q I (w _ _ _ q)⟩
theorem _root_.L2.PT.wk {X : Cx} {e : Expr} {t t' : TT} (h : PT X e t) (w : ∀ σ H Q, t' σ H Q → t σ H Q) : PT X e t' := ⟨fun pins s σ H Q I q => h.run pins s σ H Q I (w _ _ _ q)⟩
theorem _root_.L2.PW.wk {X : Cx} {e : Expr} {t t' : TT} (h : PW X e t) (w : ∀ σ H Q, t' σ H Q → t σ H Q) : PW X e t' := ⟨fun wh pins s σ H Q I q => h.run wh pins s σ H Q I (w _ _ _ q)⟩
theorem _root_.L2.PA.wk {X : Cx} {e : List Expr} {t t' : TA} (h : PA X e t) (w : ∀ σ H Q, t' σ H Q → t σ H Q) : PA X e t' := ⟨fun pos pins s σ H Q I q => h.run pos pins s σ H Q I (w _ _ _ q)⟩
theorem _root_.L2.PS.wk {X : Cx} {e : Stmt} {t t' : TS} (h : PS X e t) (w : ∀ σ H Q, t' Q σ H → t Q σ H) : PS X e t' := ⟨fun pins s σ H D I q => h.run pins s σ H D I (w _ _ _ q)⟩
theorem _root_.L2.PSs.wk {X : Cx} {e : List Stmt} {t t' : TS} (h : PSs X e t) (w : ∀ σ H Q, t' Q σ H → t Q σ H) : PSs X e t' := ⟨fun pins s σ H D I q => h.run pins s σ H D I (w _ _ _ q)⟩
theorem pw_never {X : Cx} {e : Expr} : PW X e (fun _ _ _ => False) := ⟨fun _ _ _ _ _ _ _ h => h.elim⟩
theorem pe_never {X : Cx} {e : Expr} : PE X e (fun _ _ _ => False) := ⟨fun _ _ _ _ _ _ h => h.elim⟩
end RL

set_option maxHeartbeats 2000000
/-! RL4: expressions and tests -/
namespace RL
open PySem L2

section
variable {X : Cx} {C : Cn} {Γ Γ1 Γ2 Γ3 Γ' : Ctx} {Ts : List T} {t t1 t2 t3 : T} {ts : List T} {e a b c : Expr} {es rest : List Expr} {pos p p2 : Pos} {i j : Nat} {d d1 d2 d3 : D} {ds : List D} {m : M} {b1 b2 k : Bool}

/-! ### constants, names -/
theorem ee_int {n : Int} {j} : EE X C Γ Ts (.Constant (.int n) j pos) Γ (.im (.int n)) := pe_int.wk fun σ H Q ⟨vs, h, q⟩ => q _ H (h.pushIm Ext.refl (by unfold rD; rfl))
theorem ee_bl {j} : EE X C Γ Ts (.Constant (.bool k) j pos) Γ (.im (.bl k)) := pe_bl.wk fun σ H Q ⟨vs, h, q⟩ => q _ H (h.pushIm Ext.refl (by unfold rD; rfl))
theorem ee_non {j} : EE X C Γ Ts (.Constant .none j pos) Γ (.im .non) := pe_non.wk fun σ H Q ⟨vs, h, q⟩ => q _ H (h.pushIm Ext.refl (by unfold rD; rfl))
theorem ee_str {x : Str} {j} : EE X C Γ Ts (.Constant (.str x) j pos) Γ (.im (.str x)) := pe_str.wk fun σ H Q ⟨vs, h, q⟩ => q _ H (h.pushIm Ext.refl (by unfold rD; rfl))
theorem ee_var (i : Nat) (h : PE X e (tVar i)) (hi : Γ[i]? = some (some (.im d)) := by rfl) : EE X C Γ Ts e Γ (.im d) := h.wk fun σ H Q ⟨vs, h, q⟩ => by
  obtain ⟨v, hv, r⟩ := h.slotIm hi
  exact ⟨v, hv, q v H (h.pushIm Ext.refl r)⟩
theorem ee_al (i : Nat) (h : PE X e (tVar i)) (hi : Γ[i]? = some (some m) := by rfl) : EE X C Γ Ts e Γ (.al i) := h.wk fun σ H Q ⟨vs, h, q⟩ => by
  obtain ⟨v, hv, r⟩ := h.alias hi
  exact ⟨v, hv, q v H r⟩
theorem ee_tk (i : Nat) (h : PE X e (tVar i)) (hi : Γ[i]? = some (some m) := by rfl) : EE X C Γ Ts e (Γ.set i none) (.tk i m) := h.wk fun σ H Q ⟨vs, h, q⟩ => by
  obtain ⟨v, hv, r⟩ := h.take hi
  exact ⟨v, hv, q v H r⟩
theorem ee_mv (i : Nat) (h : PE X e (tVar i)) (hi : Γ[i]? = some (some m) := by rfl) : EE X C Γ Ts e (Γ.set i none) (.own m) := h.wk fun σ H Q ⟨vs, h, q⟩ => by
  obtain ⟨v, hv, r⟩ := h.take hi
  exact ⟨v, hv, q v H r.free⟩
/-- a constant of the module -/
theorem ee_cst {v : V} (h : PE X e (tC v)) (r : ∀ H, rD C.K d v H) : EE X C Γ Ts e Γ (.im d) := h.wk fun σ H Q ⟨vs, h, q⟩ => q _ H (h.pushIm Ext.refl (r H))

/-! ### arguments -/
theorem ea_nil : EA X C Γ Ts [] Γ [] := pa_nil.wk fun σ H Q ⟨vs, h, q⟩ => q [] H rfl (by simpa using h)
theorem ea_cons (h1 : EE X C Γ Ts e Γ1 t) (h2 : EA X C Γ1 (Ts ++ [t]) es Γ2 ts) (hs : starEach (e :: es) X.env = (false, eval e X.env) :: starEach es X.env := by rfl) : EA X C Γ Ts (e :: es) Γ2 (t :: ts) := (pa_cons h1 h2 hs).wk fun σ H Q ⟨vs, h, q⟩ =>
  ⟨vs, h, fun v H1 h1 => ⟨vs ++ [v], h1, fun us H2 hl h2 => q (v :: us) H2 (by simp [hl]) (by simpa using h2)⟩⟩

/-! ### operators by values -/
def R2S (C : Cn) (Γ : Ctx) (Ts : List T) (t1 t2 : T) (r : R2) (Γ' : Ctx) (t3 : T) : Prop :=
  ∀ σ vs x y H, As C Γ (Ts ++ [t1] ++ [t2]) σ (vs ++ [x] ++ [y]) H → ∀ Q : VK, (∀ z H', As C Γ' (Ts ++ [t3]) σ (vs ++ [z]) H' → Q z H') → r x y H Q
theorem op_wk {r : R2} (h1 : EE X C Γ Ts a Γ1 t1) (h2 : EE X C Γ1 (Ts ++ [t1]) b Γ2 t2) (hr : R2S C Γ2 Ts t1 t2 r Γ3 t3) {e : Expr} (h : PE X e (tOp r (er C Γ Ts Γ1 t1) (er C Γ1 (Ts ++ [t1]) Γ2 t2))) : EE X C Γ Ts e Γ3 t3 := h.wk fun σ H Q ⟨vs, h, q⟩ =>
  ⟨vs, h, fun x H1 h1 => ⟨vs ++ [x], h1, fun y H2 h2 => hr σ vs x y H2 h2 Q q⟩⟩
theorem ee_op {op : Operator} {r : R2} (ho : OpR X (binaryOp op) r) (h1 : EE X C Γ Ts a Γ1 t1) (h2 : EE X C Γ1 (Ts ++ [t1]) b Γ2 t2) (hr : R2S C Γ2 Ts t1 t2 r Γ3 t3) : EE X C Γ Ts (.BinOp a op b pos) Γ3 t3 := op_wk h1 h2 hr (pe_op ho h1 h2)
theorem ee_cmp {op : CmpOp} {r : R2} (ho : OpR X (compareOp op) r) (hm : behindInMarks op b = false) (h1 : EE X C Γ Ts a Γ1 t1) (h2 : EE X C Γ1 (Ts ++ [t1]) b Γ2 t2) (hr : R2S C Γ2 Ts t1 t2 r Γ3 t3) : EE X C Γ Ts (.Compare a [op] [b] pos) Γ3 t3 := op_wk h1 h2 hr (pe_cmpR ho h1 h2 hm)
theorem et_cmp {op : CmpOp} {r : R2} (ho : OpR X (compareOp op) r) (hm : behindInMarks op b = false) (h1 : EE X C Γ Ts a Γ1 t1) (h2 : EE X C Γ1 (Ts ++ [t1]) b Γ2 t2) (hr : R2S C Γ2 Ts t1 t2 r Γ3 (.im (.bl k))) : ET X C Γ Ts (.Compare a [op] [b] pos) Γ3 k := (pt_cmpR ho h1 h2 hm).wk fun σ H Q ⟨vs, h, q⟩ =>
  ⟨vs, h, fun x H1 h1 => ⟨vs ++ [x], h1, fun y H2 h2 => hr σ vs x y H2 h2 _ fun z H' hz => by
    have e := hz.topIm
    unfold rD at e
    exact ⟨k, e, q H' hz.pop⟩⟩⟩
theorem ee_ix {r : R2} (ho : IxR X r) (hs : PlainIx b) (h1 : EE X C Γ Ts a Γ1 t1) (h2 : EE X C Γ1 (Ts ++ [t1]) b Γ2 t2) (hr : R2S C Γ2 Ts t1 t2 r Γ3 t3) : EE X C Γ Ts (.Subscript a b pos) Γ3 t3 := op_wk h1 h2 hr (pe_ix ho h1 h2 hs)
theorem r2s_im {r : R2} (h : ∀ x y H, rD C.K d1 x H → rD C.K d2 y H → ∀ Q : VK, (∀ z, rD C.K d3 z H → Q z H) → r x y H Q) : R2S C Γ Ts (.im d1) (.im d2) r Γ (.im d3) := fun σ vs x y H hA Q q =>
  h x y H hA.pop.topIm hA.topIm Q fun z hz => q z H (hA.pop.pop.pushIm Ext.refl hz)
theorem r2s_imN {r : R2} (h : ∀ x y H, rD C.K d1 x H → rD C.K d2 y H → ∀ Q : VK, (∀ z H', Ext H H' → rD C.K d3 z H' → Q z H') → r x y H Q) : R2S C Γ Ts (.im d1) (.im d2) r Γ (.im d3) := fun σ vs x y H hA Q q =>
  h x y H hA.pop.topIm hA.topIm Q fun z H' e hz => q z H' ((hA.pop.pop.ext e).pushIm Ext.refl hz)
theorem r2s_int {n n' : Int} {g : Int → Int → V} (h : ∀ H, rD C.K d3 (g n n') H) : R2S C Γ Ts (.im (.int n)) (.im (.int n')) (rI0 g) Γ (.im d3) := r2s_im fun x y H hx hy Q q => by
  unfold rD at hx hy
  exact ⟨n, n', hx, hy, q _ (h H)⟩
theorem r2s_intC {n n' : Int} {G : Int → Int → Prop} {g : Int → Int → V} (hc : G n n') (h : ∀ H, rD C.K d3 (g n n') H) : R2S C Γ Ts (.im (.int n)) (.im (.int n')) (rI G g) Γ (.im d3) := r2s_im fun x y H hx hy Q q => by
  unfold rD at hx hy
  exact ⟨n, n', hx, hy, hc, q _ (h H)⟩
section
variable {n n' : Int}
theorem ee_add (h1 : EE X C Γ Ts a Γ1 (.im (.int n))) (h2 : EE X C Γ1 (Ts ++ [.im (.int n)]) b Γ2 (.im (.int n'))) : EE X C Γ Ts (.BinOp a .Add b pos) Γ2 (.im (.int (n + n'))) := ee_op op_add h1 h2 (r2s_int fun H => by unfold rD; rfl)
theorem ee_sub (h1 : EE X C Γ Ts a Γ1 (.im (.int n))) (h2 : EE X C Γ1 (Ts ++ [.im (.int n)]) b Γ2 (.im (.int n'))) : EE X C Γ Ts (.BinOp a .Sub b pos) Γ2 (.im (.int (n - n'))) := ee_op op_sub h1 h2 (r2s_int fun H => by unfold rD; rfl)
theorem ee_mul (hc : CMul n n') (h1 : EE X C Γ Ts a Γ1 (.im (.int n))) (h2 : EE X C Γ1 (Ts ++ [.im (.int n)]) b Γ2 (.im (.int n'))) : EE X C Γ Ts (.BinOp a .Mult b pos) Γ2 (.im (.int (n * n'))) := ee_op op_mul h1 h2 (r2s_intC hc fun H => by unfold rD; rfl)
theorem ee_fdivW (hc : CDivW n n') (h1 : EE X C Γ Ts a Γ1 (.im (.int n))) (h2 : EE X C Γ1 (Ts ++ [.im (.int n)]) b Γ2 (.im (.int n'))) : EE X C Γ Ts (.BinOp a .FloorDiv b pos) Γ2 (.im (.int (n / n'))) := ee_op op_fdivW h1 h2 (r2s_intC hc fun H => by unfold rD; rfl)
theorem ee_mod (hc : 0 < n') (h1 : EE X C Γ Ts a Γ1 (.im (.int n))) (h2 : EE X C Γ1 (Ts ++ [.im (.int n)]) b Γ2 (.im (.int n'))) : EE X C Γ Ts (.BinOp a .Mod b pos) Γ2 (.im (.int (n % n'))) := ee_op op_mod h1 h2 (r2s_intC hc fun H => by unfold rD; rfl)
theorem et_lt (h1 : EE X C Γ Ts a Γ1 (.im (.int n))) (h2 : EE X C Γ1 (Ts ++ [.im (.int n)]) b Γ2 (.im (.int n'))) : ET X C Γ Ts (.Compare a [.Lt] [b] pos) Γ2 (decide (n < n')) := et_cmp op_lt (nomark _) h1 h2 (r2s_int fun H => by unfold rD; rfl)
theorem et_gt (h1 : EE X C Γ Ts a Γ1 (.im (.int n))) (h2 : EE X C Γ1 (Ts ++ [.im (.int n)]) b Γ2 (.im (.int n'))) : ET X C Γ Ts (.Compare a [.Gt] [b] pos) Γ2 (decide (n' < n)) := et_cmp op_gt (nomark _) h1 h2 (r2s_int fun H => by unfold rD; rfl)
end
/-! ### == of data without depth -/
def D.sc : D → Option V
  | .non => some .non | .bl b => some (.bl b) | .int i => some (.int i) | .str s => some (.str s)
  | _ => none
theorem rD.sc {K : PySem.W.Frag} {H : Hp} {v w : V} (h : rD K d v H) (e : d.sc = some w) : v = w := by
  cases d <;> first | (cases e; unfold rD at h; exact h) | cases e
theorem r2s_eq {v w : V} (e1 : d1.sc = some v) (e2 : d2.sc = some w) (hs : scal v w = true) (hk : decide (v = w) = k) : R2S C Γ Ts (.im d1) (.im d2) rEq Γ (.im (.bl k)) := r2s_im fun x y H hx hy Q q => by
  have := hx.sc e1
  have := hy.sc e2
  subst x y
  exact ⟨hs, q _ (by rw [hk]; unfold rD; rfl)⟩
theorem r2s_ne {v w : V} (e1 : d1.sc = some v) (e2 : d2.sc = some w) (hs : scal v w = true) (hk : (!decide (v = w)) = k) : R2S C Γ Ts (.im d1) (.im d2) rNe Γ (.im (.bl k)) := r2s_im fun x y H hx hy Q q => by
  have := hx.sc e1
  have := hy.sc e2
  subst x y
  exact ⟨hs, q _ (by rw [hk]; unfold rD; rfl)⟩
theorem eq_dec {α : Type} [DecidableEq α] {x y : α} {P : Prop} [Decidable P] (h : P ↔ x = y) : decide P = decide (x = y) := by
  by_cases e : x = y
  · simp [e, h.2 e]
  · have : ¬ P := fun z => e (h.1 z)
    simp [e, this]
theorem et_eqI {n n' : Int} (h1 : EE X C Γ Ts a Γ1 (.im (.int n))) (h2 : EE X C Γ1 (Ts ++ [.im (.int n)]) b Γ2 (.im (.int n'))) : ET X C Γ Ts (.Compare a [.Eq] [b] pos) Γ2 (decide (n = n')) :=
  et_cmp op_eq (nomark _) h1 h2 (r2s_eq rfl rfl rfl (eq_dec ⟨fun z => by cases z; rfl, fun z => by rw [z]⟩))
theorem et_neI {n n' : Int} (h1 : EE X C Γ Ts a Γ1 (.im (.int n))) (h2 : EE X C Γ1 (Ts ++ [.im (.int n)]) b Γ2 (.im (.int n'))) : ET X C Γ Ts (.Compare a [.NotEq] [b] pos) Γ2 (!decide (n = n')) :=
  et_cmp op_ne (nomark _) h1 h2 (r2s_ne rfl rfl rfl (congrArg not (eq_dec ⟨fun z => by cases z; rfl, fun z => by rw [z]⟩)))
theorem et_eqS {n n' : Str} (h1 : EE X C Γ Ts a Γ1 (.im (.str n))) (h2 : EE X C Γ1 (Ts ++ [.im (.str n)]) b Γ2 (.im (.str n'))) : ET X C Γ Ts (.Compare a [.Eq] [b] pos) Γ2 (decide (n = n')) :=
  et_cmp op_eq (nomark _) h1 h2 (r2s_eq rfl rfl rfl (eq_dec ⟨fun z => by cases z; rfl, fun z => by rw [z]⟩))
theorem et_neS {n n' : Str} (h1 : EE X C Γ Ts a Γ1 (.im (.str n))) (h2 : EE X C Γ1 (Ts ++ [.im (.str n)]) b Γ2 (.im (.str n'))) : ET X C Γ Ts (.Compare a [.NotEq] [b] pos) Γ2 (!decide (n = n')) :=
  et_cmp op_ne (nomark _) h1 h2 (r2s_ne rfl rfl rfl (congrArg not (eq_dec ⟨fun z => by cases z; rfl, fun z => by rw [z]⟩)))
theorem ee_eqI {n n' : Int} (h1 : EE X C Γ Ts a Γ1 (.im (.int n))) (h2 : EE X C Γ1 (Ts ++ [.im (.int n)]) b Γ2 (.im (.int n'))) : EE X C Γ Ts (.Compare a [.Eq] [b] pos) Γ2 (.im (.bl (decide (n = n')))) :=
  ee_cmp op_eq (nomark _) h1 h2 (r2s_eq rfl rfl rfl (eq_dec ⟨fun z => by cases z; rfl, fun z => by rw [z]⟩))
theorem ee_eqS {n n' : Str} (h1 : EE X C Γ Ts a Γ1 (.im (.str n))) (h2 : EE X C Γ1 (Ts ++ [.im (.str n)]) b Γ2 (.im (.str n'))) : EE X C Γ Ts (.Compare a [.Eq] [b] pos) Γ2 (.im (.bl (decide (n = n')))) :=
  ee_cmp op_eq (nomark _) h1 h2 (r2s_eq rfl rfl rfl (eq_dec ⟨fun z => by cases z; rfl, fun z => by rw [z]⟩))

/-! ### tests -/
theorem et_val (h : EE X C Γ Ts e Γ1 (.im (.bl k))) (he : ∀ whole, isTrue e X.env whole = (do let v ← whole; standAt e.pos; holding [v] (truthy v)) := by intro _; rfl) : ET X C Γ Ts e Γ1 k := (pt_val h he).wk fun σ H Q ⟨vs, h, q⟩ =>
  ⟨vs, h, fun v H1 h1 => by
    have e := h1.topIm
    unfold rD at e
    exact ⟨k, e, q H1 h1.pop⟩⟩
theorem ee_isN (h : EE X C Γ Ts a Γ1 (.im d)) {j pos'} : EE X C Γ Ts (.Compare a [.Is] [.Constant .none j pos'] pos) Γ1 (.im (.bl (match d with | .non => true | _ => false))) := (pe_cmp (pc_isN h)).wk fun σ H Q ⟨vs, h, q⟩ =>
  ⟨vs, h, fun v H1 h1 => q _ H1 (h1.pop.pushIm Ext.refl (by
    have e := h1.topIm
    cases d <;> (unfold rD at e; unfold rD) <;> first | (obtain ⟨_, _, e, _⟩ := e; rw [e]; rfl) | (obtain ⟨_, _, _, e, _⟩ := e; rw [e]; rfl) | (rw [e]; rfl)))⟩
theorem et_isN (h : EE X C Γ Ts a Γ1 (.im d)) {j pos'} : ET X C Γ Ts (.Compare a [.Is] [.Constant .none j pos'] pos) Γ1 (match d with | .non => true | _ => false) := (pt_cmp (pc_isN h)).wk fun σ H Q ⟨vs, h, q⟩ =>
  ⟨vs, h, fun v H1 h1 => ⟨_, rfl, by
    have e := h1.topIm
    have z := q H1 h1.pop
    cases d <;> unfold rD at e <;> first | (obtain ⟨_, _, e, _⟩ := e; rw [e]; exact z) | (obtain ⟨_, _, _, e, _⟩ := e; rw [e]; exact z) | (rw [e]; exact z)⟩⟩
theorem et_not (h : ET X C Γ Ts a Γ1 k) : ET X C Γ Ts (.UnaryOp .Not a pos) Γ1 (!k) := (pt_not h).wk fun σ H Q ⟨vs, h, q⟩ => ⟨vs, h, fun H1 h1 => q H1 h1⟩
/-- and: the rest is asked where the first holds -/
theorem ew_and (h1 : ET X C Γ Ts a Γ1 b1) (h2 : b1 = true → EW X C Γ1 Ts (.BoolOp .And (b :: rest) pos) Γ' k) (h3 : b1 = false → Γ' = Γ1 ∧ k = false) : EW X C Γ Ts (.BoolOp .And (a :: b :: rest) pos) Γ' k := by
  cases b1 with
  | true => exact (pw_and h1 (h2 rfl)).wk fun σ H Q ⟨vs, h, q⟩ => ⟨vs, h, fun H1 h1 => ⟨vs, h1, q⟩⟩
  | false =>
    obtain ⟨rfl, rfl⟩ := h3 rfl
    exact (pw_and h1 pw_never).wk fun σ H Q ⟨vs, h, q⟩ => ⟨vs, h, fun H1 h1 => q H1 h1⟩
theorem ew_or (h1 : ET X C Γ Ts a Γ1 b1) (h2 : b1 = false → EW X C Γ1 Ts (.BoolOp .Or (b :: rest) pos) Γ' k) (h3 : b1 = true → Γ' = Γ1 ∧ k = true) : EW X C Γ Ts (.BoolOp .Or (a :: b :: rest) pos) Γ' k := by
  cases b1 with
  | false => exact (pw_or h1 (h2 rfl)).wk fun σ H Q ⟨vs, h, q⟩ => ⟨vs, h, fun H1 h1 => ⟨vs, h1, q⟩⟩
  | true =>
    obtain ⟨rfl, rfl⟩ := h3 rfl
    exact (pw_or h1 pw_never).wk fun σ H Q ⟨vs, h, q⟩ => ⟨vs, h, fun H1 h1 => q H1 h1⟩
theorem ew_and1 (h : ET X C Γ Ts a Γ' k) : EW X C Γ Ts (.BoolOp .And [a] pos) Γ' k := pw_and1 h
theorem ew_or1 (h : ET X C Γ Ts a Γ' k) : EW X C Γ Ts (.BoolOp .Or [a] pos) Γ' k := pw_or1 h
/-- and, or that leave the state as it is -/
theorem ew_andP (h1 : ET X C Γ Ts a Γ b1) (h2 : b1 = true → EW X C Γ Ts (.BoolOp .And (b :: rest) pos) Γ k) : EW X C Γ Ts (.BoolOp .And (a :: b :: rest) pos) Γ (b1 && k) := ew_and h1 (fun e => by rw [e]; exact h2 e) fun e => ⟨rfl, by rw [e] <;> rfl⟩
theorem ew_orP (h1 : ET X C Γ Ts a Γ b1) (h2 : b1 = false → EW X C Γ Ts (.BoolOp .Or (b :: rest) pos) Γ k) : EW X C Γ Ts (.BoolOp .Or (a :: b :: rest) pos) Γ (b1 || k) := ew_or h1 (fun e => by rw [e]; exact h2 e) fun e => ⟨rfl, by rw [e] <;> rfl⟩
theorem ET.ofW (h : EW X C Γ Ts e Γ' k) : ET X C Γ Ts e Γ' k := h.pt
/-- and, or, not as values (all truths) -/
theorem ee_and (h1 : EE X C Γ Ts a Γ1 (.im (.bl b1))) (h2 : b1 = true → EE X C Γ1 Ts (.BoolOp .And (b :: rest) pos) Γ' (.im (.bl k))) (h3 : b1 = false → Γ' = Γ1 ∧ k = false) : EE X C Γ Ts (.BoolOp .And (a :: b :: rest) pos) Γ' (.im (.bl k)) := by
  cases b1 with
  | true => exact (pe_and h1 (h2 rfl)).wk fun σ H Q ⟨vs, h, q⟩ => ⟨vs, h, fun v H1 h1 => by
      have e := h1.topIm
      unfold rD at e
      exact ⟨true, e, vs, h1.pop, q⟩⟩
  | false =>
    obtain ⟨rfl, rfl⟩ := h3 rfl
    exact (pe_and h1 pe_never).wk fun σ H Q ⟨vs, h, q⟩ => ⟨vs, h, fun v H1 h1 => by
      have e := h1.topIm
      unfold rD at e
      exact ⟨false, e, q _ H1 (h1.pop.pushIm Ext.refl (by unfold rD; rfl))⟩⟩
theorem ee_one {op} (h : EE X C Γ Ts a Γ' t) : EE X C Γ Ts (.BoolOp op [a] pos) Γ' t := pe_one h
theorem ee_andP (h1 : EE X C Γ Ts a Γ (.im (.bl b1))) (h2 : b1 = true → EE X C Γ Ts (.BoolOp .And (b :: rest) pos) Γ (.im (.bl k))) : EE X C Γ Ts (.BoolOp .And (a :: b :: rest) pos) Γ (.im (.bl (b1 && k))) := ee_and h1 (fun e => by rw [e]; exact h2 e) fun e => ⟨rfl, by rw [e] <;> rfl⟩
theorem ee_not (h : EE X C Γ Ts a Γ1 (.im (.bl k))) : EE X C Γ Ts (.UnaryOp .Not a pos) Γ1 (.im (.bl (!k))) := (pe_not h).wk fun σ H Q ⟨vs, h, q⟩ => ⟨vs, h, fun v H1 h1 => by
  have e := h1.topIm
  unfold rD at e
  exact ⟨k, e, q _ H1 (h1.pop.pushIm Ext.refl (by unfold rD; rfl))⟩⟩
theorem ee_if (hc : ET X C Γ Ts c Γ1 k) (h1 : k = true → EE X C Γ1 Ts a Γ' t) (h2 : k = false → EE X C Γ1 Ts b Γ' t) : EE X C Γ Ts (.IfExp c a b pos) Γ' t := by
  cases k with
  | true => exact (pe_ifExp hc (h1 rfl) pe_never).wk fun σ H Q ⟨vs, h, q⟩ => ⟨vs, h, fun H1 h1 => ⟨vs, h1, q⟩⟩
  | false => exact (pe_ifExp hc pe_never (h2 rfl)).wk fun σ H Q ⟨vs, h, q⟩ => ⟨vs, h, fun H1 h1 => by
      show (if false = true then _ else _)
      rw [if_neg Bool.false_ne_true]
      exact ⟨vs, h1, q⟩⟩

/-! ### displays -/
theorem As.ims {us vs : List V} {σ H} (hl : us.length = ds.length) (h : As C Γ (Ts ++ ds.map T.im) σ (vs ++ us) H) : rDs C.K ds us H ∧ As C Γ Ts σ vs H := by
  obtain ⟨fp, G, B, _⟩ := h.blob (ms := ds.map M.im) (by simp [List.map_map]; intro d hd; rfl) (by simpa using hl)
  exact ⟨B.r.imD, B.as⟩
theorem rDs.len {K : PySem.W.Frag} {H : Hp} : ∀ {ds : List D} {us : List V}, rDs K ds us H → us.length = ds.length
  | [], us, h => by unfold rDs at h; rw [h] <;> rfl
  | d :: ds, us, h => by
    unfold rDs at h
    obtain ⟨w, ws, e, r, s⟩ := h
    rw [e, List.length_cons, List.length_cons, s.len]
theorem ee_tup {x1} (h : EA X C Γ Ts es Γ1 (ds.map T.im)) (hl : ds.length ≤ 1000) : EE X C Γ Ts (.Tuple es x1 pos) Γ1 (.im (.tup ds)) := (pe_tupN h).wk fun σ H Q ⟨vs, h, q⟩ => ⟨vs, h, fun us H1 l h1 => by
  have l' : us.length = ds.length := by simpa using l
  obtain ⟨r, h2⟩ := As.ims l' h1
  refine ⟨Nat.le_trans (by omega) (show 1000 ≤ sizeLine by decide), fun p o hp ho => q _ _ (h2.pushIm (Ext.new hp) ?_)⟩
  unfold rD
  exact ⟨p, us, rfl, SqN.new upd_same ho, r.tf (Ext.new hp).tf⟩⟩
theorem ee_lst (h : EA X C Γ Ts es Γ1 (ds.map T.im)) (hl : ds.length ≤ 1000) : EE X C Γ Ts (.List es pos) Γ1 (.own (.li ds)) := (pe_lst h).wk fun σ H Q ⟨vs, h, q⟩ => ⟨vs, h, fun us H1 l h1 => by
  have l' : us.length = ds.length := by simpa using l
  obtain ⟨r, h2⟩ := As.ims l' h1
  refine ⟨Nat.le_trans (by omega) (show 1000 ≤ sizeLine by decide), fun p hp => q _ _ (h2.push (Ext.new hp) (t := .own (.li ds)) (F := fun a => a = p) ?_ (fun a e => by rw [e]; exact hp) fun a e => by rw [e, upd_same]; trivial)⟩
  show rM _ _ _ _ _
  unfold rM
  exact ⟨p, us, rfl, upd_same, r.tf (Ext.new hp).tf, fun b => Iff.rfl⟩⟩
/-! ### calls of built-ins by values -/
def CLS (C : Cn) (Γ : Ctx) (Ts ts : List T) (r : List V → Hp → VK → Prop) (Γ' : Ctx) (t : T) : Prop :=
  ∀ σ vs us H, us.length = ts.length → As C Γ (Ts ++ ts) σ (vs ++ us) H → ∀ Q : VK, (∀ z H', As C Γ' (Ts ++ [t]) σ (vs ++ [z]) H' → Q z H') → r us H Q
theorem cb_wk {r : List V → Hp → VK → Prop} (hr : CLS C Γ1 Ts ts r Γ2 t) {e : Expr} (h : PE X e (tCB r (ar C Γ Ts Γ1 ts))) : EE X C Γ Ts e Γ2 t := h.wk fun σ H Q ⟨vs, h, q⟩ =>
  ⟨vs, h, fun us H1 hl h1 => hr σ vs us H1 hl h1 Q q⟩
theorem cls_1 {r : List V → Hp → VK → Prop} (h : ∀ x H, rD C.K d1 x H → ∀ Q : VK, (∀ z, rD C.K d3 z H → Q z H) → r [x] H Q) : CLS C Γ Ts [.im d1] r Γ (.im d3) := fun σ vs us H hl hA Q q => by
  obtain ⟨u, rfl⟩ : ∃ u, us = [u] := List.length_eq_one_iff.mp hl
  exact h u H hA.topIm Q fun z hz => q z H (hA.pop.pushIm Ext.refl hz)
theorem cls_2 {r : List V → Hp → VK → Prop} (h : ∀ x y H, rD C.K d1 x H → rD C.K d2 y H → ∀ Q : VK, (∀ z, rD C.K d3 z H → Q z H) → r [x, y] H Q) : CLS C Γ Ts [.im d1, .im d2] r Γ (.im d3) := fun σ vs us H hl hA Q q => by
  obtain ⟨u, w, rfl⟩ : ∃ u w, us = [u, w] := match us, hl with | [u, w], _ => ⟨u, w, rfl⟩
  have hA' : As C Γ ((Ts ++ [.im d1]) ++ [.im d2]) σ ((vs ++ [u]) ++ [w]) H := by simpa using hA
  exact h u w H hA'.pop.topIm hA'.topIm Q fun z hz => q z H (hA'.pop.pop.pushIm Ext.refl hz)
end
end RL

set_option maxHeartbeats 2000000
/-! RL5: defs and their calls (where no guard of a text's making runs) -/
namespace RL
open PySem L2 PySem.Spec

/-- a def keeps its promise, called where no repr is under way -/
structure FnG (P : Program) (w : World) (K : PySem.W.Frag) (mg : Str → Option Value) (base : Heap) (k : Nat) (f : Addr) (fd : FuncData) (ps : List Str) (sp : Sp) : Prop where
  len : ∀ vs H Q E, sp vs H Q E → vs.length = ps.length
  go : ∀ (A : Around) (outer : List Env) (s : Shared) (H : Hp) (args : Args) (us : List Value) (vs : List V) (Q : VK) (E : XK), Room k A → A.guards = some [] → Env0 P w K mg base A outer s H → BindsTo s fd args (ps.zip us) → Vals vs us →
    sp vs H Q E → codeAny (model P w) A (.call (.ref f) args) (CR CX0 outer P w H s Q E) s
theorem FnG.mono {P : Program} {w : World} {K : PySem.W.Frag} {mg : Str → Option Value} {base : Heap} {j k : Nat} {f : Addr} {fd : FuncData} {ps : List Str} {sp : Sp} (F : FnG P w K mg base j f fd ps sp) (h : j ≤ k) : FnG P w K mg base k f fd ps sp :=
  ⟨F.len, fun A outer s H args us vs Q E hr => F.go A outer s H args us vs Q E (hr.mono h)⟩
theorem FnG.imp {P : Program} {w : World} {K : PySem.W.Frag} {mg : Str → Option Value} {base : Heap} {k : Nat} {f : Addr} {fd : FuncData} {ps : List Str} {sp sp' : Sp} (F : FnG P w K mg base k f fd ps sp) (h : ∀ vs H Q E, sp' vs H Q E → sp vs H Q E) : FnG P w K mg base k f fd ps sp' :=
  ⟨fun vs H Q E q => F.len vs H Q E (h _ _ _ _ q), fun A outer s H args us vs Q E hr hg he hb hv hs => F.go A outer s H args us vs Q E hr hg he hb hv (h _ _ _ _ hs)⟩
/-- from a body -/
theorem FnG.of {P : Program} {w : World} {K : PySem.W.Frag} {mg : Str → Option Value} {base : Heap} {k : Nat} {f : Addr} {x qual : Str} {params : Arguments} {body : List Stmt} {sc : Scope} {dV kV doc pm cdv ct oc : Value} {an od : Option Addr} {osl : Array (Option Value)} {N ps : List Str} {sp : Sp}
    (lk : K.lookup f = some ⟨oc, od, .func (PySem.W.fnOf x qual params body sc dV kV doc pm an cdv ct), osl⟩) (hcd : PySem.W.codeIn K cdv qual = true) (S : FnScope N ps sc) (len : ∀ vs H Q E, sp vs H Q E → vs.length = ps.length)
    (hbody : ∀ (A : Around) (outer : List Env) (s : Shared) (H : Hp) (vs : List V) (Q : VK) (E : XK), Room k (A.deeper (PyProof.Rows.envOfC qual sc s.heap.objs.size f cdv)) → A.guards = some [] → sp vs H Q E →
      ∃ t, PSs (cxOf CX0 P w K mg base N qual sc f cdv A outer s H E).nox body t ∧ t { nx := fun _ H' => Q .non H', rt := Q } (start N vs) H) :
    FnG P w K mg base (k + 1) f (PySem.W.fnOf x qual params body sc dV kV doc pm an cdv ct) ps sp := by
  constructor
  · exact len
  intro A outer s H args us vs Q E hr hg e0 hb rel hsp
  have hlen := len _ _ _ _ hsp
  have kin : K.In s.heap := e0.mod.kin.keeps (fun b o z => (e0.bs b o z).1)
  have nol : s.heap.NoLimit := e0.mod.nolimit.keeps (fun b o z => (e0.bs b o z).1)
  have kinds : ∀ y ∈ ps.zip us, sc.names.lookup y.1 = some .local ∨ (sc.names.lookup y.1 = some .cell ∧ ((cellsFrom (s.heap.objs.size + 1) sc.names []).lookup y.1).isSome = true) := by
    rintro ⟨n, v⟩ hy
    exact (S.par n (List.of_mem_zip hy).1).elim .inl fun z => .inr ⟨z, PySem.W.cellsFrom_some _ _ _ (.inl z)⟩
  refine codeAny_call_function hr.depth (kin _ _ lk) rfl S.co S.gen rfl (PySem.W.codeRec_of kin hcd) (hb _ _ _ _ ?_)
  refine wpAny_newFunctionEnv_cells S.kind kinds fun env he s1 made => ?_
  subst he
  refine ⟨nol.keeps made.toInCall.keep, codeAny_func ?_⟩
  obtain ⟨t, ht, hq⟩ := hbody A outer s H vs Q E (hr.deeper _) hg hsp
  have inv : Inv (cxOf CX0 P w K mg base N qual sc f cdv A outer s H E) [] (start N vs) H s1 := inv_start S hr.hd e0 hlen rel made
  refine wpAny_mono (ht.nox.run [] s1 (start N vs) H _ inv hq) (fun fl s' hs => ?_) (fun e s' hs => hs)
  cases fl with
  | next =>
    obtain ⟨σ', H', J, q⟩ := hs
    exact ⟨V.non, H', J.os, J.bare, J.base, J.hok, rfl, q⟩
  | ret u =>
    obtain ⟨v, σ', H', J, rv, q⟩ := hs
    exact ⟨v, H', J.os, J.bare, J.base, J.hok, rv, q⟩
  | brk =>
    obtain ⟨_, _, _, q⟩ := hs
    cases q
  | cont =>
    obtain ⟨_, _, _, q⟩ := hs
    cases q

section
variable {X : Cx} {k : Nat} {f : Addr} {fd : FuncData} {ps ks : List Str} {sp : Sp} {x : Str} {p pos : Pos} {e : Expr} {es : List Expr} {kws : List Keyword} {ta tk : TA} {gV : List V → List V → List V} {g : List Value → List Value → List Value}
/-- the callee runs, however its arguments have come -/
theorem runG {pins : List (Addr × Obj)} {σ : St} {H : Hp} {s : Shared} {Q : VK} {us ws : List Value} {kw : List (Str × Value)} {vs : List V} (F : FnG X.prog X.w X.K X.mg X.base k f fd ps sp) (hr : Room k X.A) (hg : X.A.guards = some [])
    (I : Inv X pins σ H s) (hb : us.length = ps.length → BindsTo s fd ⟨ws, kw⟩ (ps.zip us)) (r : Vals vs us) (h : sp vs H Q E0) : wpAny (model X.prog X.w) X.A (call (.ref f) ws kw) (EP X pins σ Q) X.xe s := by
  have hl : us.length = ps.length := r.length.symm.trans (F.len _ _ _ _ h)
  refine wpAny_call (codeAny_mono (F.go X.A X.stack s H ⟨ws, kw⟩ us vs Q E0 hr hg I.env0 (hb hl) r h) (fun r s' hq => ?_))
  match r, hq with
  | .ok (.ret u), hq => exact I.after hq
  | .ok .next, hq => exact hq.elim
  | .ok .brk, hq => exact hq.elim
  | .ok .cont, hq => exact hq.elim
  | .error e, hq => exact hq.elim
/-- f(a, ..) -/
theorem pe_callG (F : FnG X.prog X.w X.K X.mg X.base k f fd ps sp) (hr : Room k X.A) (hG : X.A.guards = some []) (hg : Gl X x) (hm : X.mg x = some (.ref f)) (hk : PySem.W.keepIn X.K (.ref f) = true) (hb : Binds X.K fd ps [])
    (ha : PA X (e :: es) ta) (hdb : (x == ("__debug__" : Str)) = false := by decide) (he : starEach (e :: es) X.env = (false, eval e X.env) :: starEach es X.env := by rfl) (hpl : (backTo pos (starEach es X.env)).any (·.1) = false := by rfl) :
    PE X (.Call (.Name x p) (e :: es) [] pos) (fun σ H Q => ta σ H fun vs H1 => sp vs H1 Q E0) := by
  constructor
  intro pins s σ H Q I h
  refine wpAny_Call_Name_kw (ld_glob I hg hm ?_ hdb)
  refine PySem.W.callWith_K (h₀ := X.base) I.ok.mod.kin hk (thn (ha.run pos pins s σ H _ I h) fun us s1 ⟨vs, H1, I1, r, q⟩ => ⟨I1.kIn, ?_⟩) he hpl
  exact runG F hr hG I1 (us := us) (fun hl => by simpa using hb s1 us I1.kIn (by simpa using hl)) r q
/-- f(k = b, ..) -/
theorem pe_callGK0 (F : FnG X.prog X.w X.K X.mg X.base k f fd ps sp) (hr : Room k X.A) (hG : X.A.guards = some []) (hg : Gl X x) (hm : X.mg x = some (.ref f)) (hk : PySem.W.keepIn X.K (.ref f) = true) (hb : KBinds X.K fd ps ks g gV)
    (hkw : PK X kws tk) (hall : (backToKw pos (keywordEach kws X.env)).all (·.1.isSome) = true := by rfl) (hks : (backToKw pos (keywordEach kws X.env)).filterMap (·.1) = ks := by rfl)
    (hdb : (x == ("__debug__" : Str)) = false := by decide) (hpl : ((backTo pos (starEach [] X.env)).any (·.1) || (backToKw pos (keywordEach kws X.env)).any (·.1.isNone)) = false := by rfl) :
    PE X (.Call (.Name x p) [] kws pos) (fun σ H Q => tk σ H fun zs H2 => sp (gV [] zs) H2 Q E0) := by
  constructor
  intro pins s σ H Q I h
  refine wpAny_Call_Name_kw (ld_glob I hg hm ?_ hdb)
  refine PySem.W.callWith_KW0 (h₀ := X.base) I.ok.mod.kin hk hall (thn (hkw.run pos pins s σ H _ I h) fun ws s2 ⟨zs, H2, I2, rz, q2⟩ => ⟨I2.kIn, ?_⟩) hpl
  rw [hks]
  exact runG F hr hG I2 (us := g [] ws) (fun hl => hb.to s2 [] ws I2.kIn hl) (hb.rel .nil rz) q2
end

/-! ### a def's promise over data -/
/-- called with ms it hands back r; the parameters at ios then bear ms' -/
def spR (K : PySem.W.Frag) (n : Nat) (ios : List Nat) (rel : List M → M → List M → Prop) : Sp := fun vs H Q _ => ∃ ms F r ms', vs.length = n ∧ rMs K ms vs H F ∧ rel ms r ms' ∧ ms'.length = ios.length ∧
  ∀ v H' F', rMs K (r :: ms') (v :: ios.map fun i => vs.getD i .non) H' F' → (∀ a, F' a → F a ∨ H a = none) → Frm H F H' → Q v H'
theorem spR_len {K : PySem.W.Frag} {n : Nat} {ios : List Nat} {rel : List M → M → List M → Prop} {ps : List Str} (h : n = ps.length) : ∀ vs H Q E, spR K n ios rel vs H Q E → vs.length = ps.length := fun vs H Q E ⟨_, _, _, _, e, _⟩ => e.trans h

section
variable {X : Cx} {C : Cn} {Γ Γ1 Γ2 : Ctx} {Ts ts : List T} {k n : Nat} {f : Addr} {fd : FuncData} {ps ks : List Str} {x : Str} {p pos : Pos} {e : Expr} {es : List Expr} {ios : List Nat} {rel : List M → M → List M → Prop} {ms ms' : List M} {r : M}
/-- which slots take back what comes back -/
def jsOf (ts : List T) (ios : List Nat) : List (Option Nat) := ios.map fun i => match (ts[i]? : Option RL.T) with
  | some (.tk j _) => some j
  | _ => none
theorem spR_use {σ : St} {vs us : List V} {H : Hp} {Q : VK} (hK : X.K = C.K) (hl : us.length = ts.length) (hn : ts.length = n) (hm : ts.map T.mo = ms.map some) (hrel : rel ms r ms') (hms : ms'.length = ios.length) (h : As C Γ (Ts ++ ts) σ (vs ++ us) H)
    (q : ∀ v H', As C (putAll Γ (jsOf ts ios) ms') (Ts ++ [.own r]) σ (vs ++ [v]) H' → Q v H') : spR X.K n ios rel us H Q E0 := by
  obtain ⟨fp, G, B, tk⟩ := As.blob hm hl h
  rw [hK]
  refine ⟨ms, G, r, ms', hl.trans hn, B.r, hrel, hms, fun v H' F' h1 h2 h3 => q v H' ?_⟩
  obtain ⟨fq, G', B'⟩ := (B.chg h3 h1 h2).uncons
  refine B'.putAll fun i j hi => ?_
  unfold jsOf at hi
  rw [List.getElem?_map] at hi
  cases e : ios[i]? with
  | none => rw [e] at hi; simp at hi
  | some l =>
    rw [e] at hi
    simp only [Option.map_some, Option.some.injEq] at hi
    cases e2 : ts[l]? with
    | none => rw [e2] at hi; cases hi
    | some t =>
      rw [e2] at hi
      cases t with
      | own m => cases hi
      | al j => cases hi
      | hid _ _ => cases hi
      | hal _ _ => cases hi
      | hip _ _ _ => cases hi
      | tk j' m =>
        cases hi
        obtain ⟨u, hu, hs⟩ := tk l j m e2
        refine ⟨u, ?_, hs⟩
        rw [List.getElem?_map, e]
        show some (us.getD l .non) = some u
        rw [List.getD_eq_getElem?_getD, hu] <;> rfl
theorem ee_call (F : FnG X.prog X.w X.K X.mg X.base k f fd ps (spR X.K n ios rel)) (hr : Room k X.A) (hG : X.A.guards = some []) (hm : X.mg x = some (.ref f)) (hk : PySem.W.keepIn X.K (.ref f) = true) (hb : Binds X.K fd ps [])
    (ha : EA X C Γ Ts (e :: es) Γ1 ts) (hrel : rel ms r ms') (hg : Gl X x := by rfl) (hK : X.K = C.K := by rfl) (hn : ts.length = n := by rfl) (hms : ts.map T.mo = ms.map some := by rfl) (hl : ms'.length = ios.length := by rfl) (hdb : (x == ("__debug__" : Str)) = false := by decide)
    (he : starEach (e :: es) X.env = (false, eval e X.env) :: starEach es X.env := by rfl) (hpl : (backTo pos (starEach es X.env)).any (·.1) = false := by rfl) :
    EE X C Γ Ts (.Call (.Name x p) (e :: es) [] pos) (putAll Γ1 (jsOf ts ios) ms') (.own r) :=
  (pe_callG F hr hG hg hm hk hb ha hdb he hpl).wk fun σ H Q ⟨vs, h, q⟩ => ⟨vs, h, fun us H1 l h1 => spR_use hK l hn hms hrel hl h1 q⟩
/-- all by names, data alone -/
inductive EK (X : Cx) (C : Cn) : Ctx → List T → List Keyword → List D → TA → Prop where
  | mk {Γ Ts kws ds tk} (h : PK X kws tk) (w : ∀ σ H vs (Q : List V → Hp → Prop), As C Γ Ts σ vs H → (∀ zs H', Ext H H' → rDs C.K ds zs H' → Q zs H') → tk σ H Q) : EK X C Γ Ts kws ds tk
end
end RL

set_option maxHeartbeats 2000000
/-! RL6: statements, loops, comprehensions -/
namespace RL
open PySem L2

/-! ### less is told -/
def wkL : Ctx → Ctx → Prop
  | [], [] => True
  | none :: a, _ :: b => wkL a b
  | some m :: a, x :: b => x = some m ∧ wkL a b
  | _, _ => False
theorem wkL.of : ∀ {a b : Ctx}, wkL a b → a.length = b.length ∧ ∀ (i : Nat) (m : M), a[i]? = some (some m) → b[i]? = some (some m)
  | [], [], _ => ⟨rfl, fun i m e => by simp at e⟩
  | none :: a, x :: b, h => by
    obtain ⟨h1, h2⟩ := wkL.of (a := a) (b := b) h
    refine ⟨by simp [h1], fun i m e => ?_⟩
    cases i with
    | zero => simp at e
    | succ i => simpa using h2 i m (by simpa using e)
  | some y :: a, x :: b, h => by
    obtain ⟨h0, h⟩ := h
    obtain ⟨h1, h2⟩ := wkL.of (a := a) (b := b) h
    refine ⟨by simp [h1], fun i m e => ?_⟩
    cases i with
    | zero => simp at e; subst e; simp [h0]
    | succ i => simpa using h2 i m (by simpa using e)
  | [], _ :: _, h => h.elim
  | _ :: _, [], h => by rename_i x _; cases x <;> exact h.elim
theorem As.wk {C : Cn} {Γ Γ' : Ctx} {Ts : List T} {σ : L2.St} {vs : List V} {H : Hp} (h : As C Γ Ts σ vs H) (w : wkL Γ' Γ) : As C Γ' Ts σ vs H := h.weak w.of.1 w.of.2

section
variable {X : Cx} {C : Cn} {Γ Γ1 Γ2 Γ3 Γ' : Ctx} {Ts Hs : List T} {t t1 t2 t3 : T} {ts : List T} {e a b c tg iter : Expr} {es rest : List Expr} {pos p p2 : Pos} {i j : Nat} {d d1 d2 d3 : D} {ds : List D} {m : M} {b1 b2 k : Bool} {st : Stmt} {sts body els : List Stmt} {o o' : O}
theorem ee_wk (h : EE X C Γ Ts e Γ1 t) (w : wkL Γ2 Γ1) : EE X C Γ Ts e Γ2 t := h.wk fun σ H Q ⟨vs, h, q⟩ => ⟨vs, h, fun v H' h' => q v H' (h'.wk w)⟩
/-! ### blocks -/
theorem ss_nil (w : wkL Γ' Γ) : SS X C Hs Γ [] (.nx Γ') := pss_nil.wk fun σ H D ⟨⟨hs, h⟩, q⟩ => q σ hs H (h.wk w)
theorem ss_cons (h1 : S1 X C Hs Γ st (.nx Γ1)) (h2 : SS X C Hs Γ1 sts o) : SS X C Hs Γ (st :: sts) o := (pss_cons h1 h2).wk fun σ H D ⟨h, q⟩ => ⟨h, fun σ' hs H' h' => ⟨⟨hs, h'⟩, q⟩⟩
def O.isNx : O → Bool
  | .nx _ => true
  | _ => false
/-- behind it nothing of the block is reached -/
theorem ss_exit (h1 : S1 X C Hs Γ st o) (ho : o.isNx = false) : SS X C Hs Γ (st :: sts) o := (pss_cons h1 pss_never).wk fun σ H D ⟨h, q⟩ => ⟨h, by
  cases o with
  | nx Γ => cases ho
  | bk Γ => exact q
  | ct Γ => exact q
  | rt Γ m => exact q⟩
theorem ss_one (h1 : S1 X C Hs Γ st o) : SS X C Hs Γ [st] o := pss_one h1
/-! ### statements -/
theorem s_if (hc : ET X C Γ Hs c Γ1 k) (h1 : k = true → SS X C Hs Γ1 body o) (h2 : k = false → SS X C Hs Γ1 els o) : S1 X C Hs Γ (.If c body els pos) o := by
  cases k with
  | true => exact (ps_if hc (h1 rfl) pss_never).wk fun σ H D ⟨⟨hs, h⟩, q⟩ => ⟨hs, h, fun H1 h1 => ⟨⟨hs, h1⟩, q⟩⟩
  | false => exact (ps_if hc pss_never (h2 rfl)).wk fun σ H D ⟨⟨hs, h⟩, q⟩ => ⟨hs, h, fun H1 h1 => by
      show (if false = true then _ else _)
      rw [if_neg Bool.false_ne_true]
      exact ⟨⟨hs, h1⟩, q⟩⟩
theorem s_expr (h : EE X C Γ Hs e Γ1 t) (hs : swapsWith e none pos.line X.env = pure false := by rfl) : S1 X C Hs Γ (.Expr e pos) (.nx Γ1) := (ps_expr h hs).wk fun σ H D ⟨⟨hs, h⟩, q⟩ => ⟨hs, h, fun v H1 h1 => q σ hs H1 h1.pop⟩
theorem s_ret (h : EE X C Γ Hs e Γ1 (.own m)) (w : wkL Γ' Γ1) : S1 X C Hs Γ (.Return (some e) pos) (.rt Γ' m) := (ps_ret h).wk fun σ H D ⟨⟨hs, h⟩, q⟩ => ⟨hs, h, fun v H1 h1 => q σ hs v H1 (h1.wk w)⟩
theorem s_set (i : Nat) {x : Str} {pos' : Pos} (hN : X.N.Nodup) (hi : X.N[i]? = some x) (hx : Loc X.env.scope x) (hp : ∀ p ∈ C.pin, p.1 ≠ i) (h : EE X C Γ Hs e Γ1 (.own m)) (hf : Free i Hs)
    (hs : swapsWith e (some (.Name x pos')) pos.line X.env = pure false := by rfl) (hn : X.fn x = true ∨ X.env.scope.names.lookup x = some .local := by first | exact .inl rfl | exact .inr rfl) :
    S1 X C Hs Γ (.Assign [.Name x pos'] e pos) (.nx (Γ1.set i (some m))) := (ps_set hN hi hx h hs hn).wk fun σ H D ⟨⟨hs, h⟩, q⟩ => ⟨hs, h, fun v H1 h1 => q _ hs H1 (h1.set hp hf)⟩

/-! ### targets -/
def Agree (J : List Nat) (σ σ' : L2.St) : Prop := σ'.length = σ.length ∧ ∀ i, i ∉ J → σ'[i]? = σ[i]?
theorem Agree.refl {J : List Nat} {σ : L2.St} : Agree J σ σ := ⟨rfl, fun _ _ => rfl⟩
theorem Agree.trans {J : List Nat} {σ σ1 σ2 : L2.St} (a : Agree J σ σ1) (b : Agree J σ1 σ2) : Agree J σ σ2 := ⟨b.1.trans a.1, fun i h => (b.2 i h).trans (a.2 i h)⟩
def gr (C : Cn) (Γ : Ctx) (Hs : List T) (d : D) (Γ' : Ctx) (J : List Nat) : TG := fun v σ H Q => ∃ hs, As C Γ Hs σ hs H ∧ rD C.K d v H ∧ ∀ σ', Agree J σ σ' → As C Γ' Hs σ' hs H → Q σ' H
abbrev GT (X : Cx) (C : Cn) (Hs : List T) (Γ : Ctx) (tg : Expr) (d : D) (Γ' : Ctx) (J : List Nat) : Prop := PG X tg (gr C Γ Hs d Γ' J)
def grs (C : Cn) (Γ : Ctx) (Hs : List T) (ds : List D) (Γ' : Ctx) (J : List Nat) : TGs := fun vs σ H Q => ∃ hs, As C Γ Hs σ hs H ∧ rDs C.K ds vs H ∧ ∀ σ', Agree J σ σ' → As C Γ' Hs σ' hs H → Q σ' H
abbrev GTs (X : Cx) (C : Cn) (Hs : List T) (Γ : Ctx) (tgs : List Expr) (ds : List D) (Γ' : Ctx) (J : List Nat) : Prop := PGs X tgs (grs C Γ Hs ds Γ' J)
theorem _root_.L2.PG.wk {X : Cx} {e : Expr} {t t' : TG} (h : PG X e t) (w : ∀ v σ H Q, t' v σ H Q → t v σ H Q) : PG X e t' := ⟨fun pins s σ H x u Q I r q => h.run pins s σ H x u Q I r (w _ _ _ _ q)⟩
theorem _root_.L2.PGs.wk {X : Cx} {e : List Expr} {t t' : TGs} (h : PGs X e t) (w : ∀ v σ H Q, t' v σ H Q → t v σ H Q) : PGs X e t' := ⟨fun pins s σ H x u Q I r q => h.run pins s σ H x u Q I r (w _ _ _ _ q)⟩
theorem gt_name (i : Nat) {x : Str} {J : List Nat} (hN : X.N.Nodup) (hi : X.N[i]? = some x) (hx : Loc X.env.scope x) (hp : ∀ p ∈ C.pin, p.1 ≠ i) (hf : Free i Hs) (hJ : i ∈ J) (hn : X.fn x = true ∨ X.env.scope.names.lookup x = some .local := by first | exact .inl rfl | exact .inr rfl) :
    GT X C Hs Γ (.Name x pos) d (Γ.set i (some (.im d))) J := (pg_name hN hi hx hn).wk fun v σ H Q ⟨hs, h, r, q⟩ => q _ ⟨by simp, fun k hk => List.getElem?_set_ne (fun e => hk (by rw [← e]; exact hJ))⟩ (h.setIm r hp hf)
theorem gts_nil {J : List Nat} : GTs X C Hs Γ [] [] Γ J := pgs_nil.wk fun v σ H Q ⟨hs, h, r, q⟩ => by
  unfold rDs at r
  exact ⟨r, q σ Agree.refl h⟩
theorem gts_cons {J : List Nat} (h1 : GT X C Hs Γ e d Γ1 J) (h2 : GTs X C Hs Γ1 es ds Γ2 J) (hs : (assignEach (e :: es) X.env).map (·.2) = assign e X.env :: (assignEach es X.env).map (·.2) := by rfl) : GTs X C Hs Γ (e :: es) (d :: ds) Γ2 J := (pgs_cons h1 h2 hs).wk fun v σ H Q ⟨hs, h, r, q⟩ => by
  unfold rDs at r
  obtain ⟨w, ws, e1, r1, r2⟩ := r
  exact ⟨w, ws, e1, hs, h, r1, fun σ1 a1 h1 => ⟨hs, h1, r2, fun σ2 a2 h2 => q σ2 (a1.trans a2) h2⟩⟩
theorem gt_tup {J : List Nat} {kk : Nat} (hc : X.calm = true) (h : GTs X C Hs Γ es ds Γ1 J) (hK : X.K = C.K := by rfl) (hn : (assignEach es X.env).length = ds.length := by rfl) (hst : (assignEach es X.env).findIdx? (·.1) = none := by rfl) : GT X C Hs Γ (.Tuple es kk pos) (.tup ds) Γ1 J := (pg_tup hc h hn hst).wk fun v σ H Q ⟨hs, h, r, q⟩ => by
  unfold rD at r
  obtain ⟨a, vs, e1, r1, r2⟩ := r
  exact ⟨a, vs, e1, by rw [hK]; exact r1.t, r2.len, hs, h, r2, q⟩
theorem gt_tupw {J : List Nat} {kk : Nat} (hc : X.calm = true) (h : GTs X C Hs Γ es ds Γ1 J) (hK : X.K = C.K := by rfl) (hn : (assignEach es X.env).length = ds.length := by rfl) (hst : (assignEach es X.env).findIdx? (·.1) = none := by rfl) : GT X C Hs Γ (.Tuple es kk pos) (.tpw ds) Γ1 J := (pg_tup hc h hn hst).wk fun v σ H Q ⟨hs, h, r, q⟩ => by
  unfold rD at r
  obtain ⟨a, vs, e1, r1, r2⟩ := r
  exact ⟨a, vs, e1, by rw [hK]; exact r1, r2.len, hs, h, r2, q⟩

/-! ### families of readings -/
theorem _root_.L2.PT.ex {X : Cx} {ι : Type} {e : Expr} {t : ι → TT} {P : ι → Prop} (h : ∀ i, P i → PT X e (t i)) : PT X e (fun σ H Q => ∃ i, P i ∧ t i σ H Q) := ⟨fun pins s σ H Q I ⟨i, p, q⟩ => (h i p).run pins s σ H Q I q⟩
theorem _root_.L2.PE.ex {X : Cx} {ι : Type} {e : Expr} {t : ι → TE} {P : ι → Prop} (h : ∀ i, P i → PE X e (t i)) : PE X e (fun σ H Q => ∃ i, P i ∧ t i σ H Q) := ⟨fun pins s σ H Q I ⟨i, p, q⟩ => (h i p).run pins s σ H Q I q⟩
theorem _root_.L2.PTs.ex {X : Cx} {ι : Type} {e : List Expr} {t : ι → TT} {P : ι → Prop} (h : ∀ i, P i → PTs X e (t i)) : PTs X e (fun σ H Q => ∃ i, P i ∧ t i σ H Q) := ⟨fun pins s σ H Q I ⟨i, p, q⟩ => (h i p).run pins s σ H Q I q⟩
theorem _root_.L2.PTs.wk {X : Cx} {e : List Expr} {t t' : TT} (h : PTs X e t) (w : ∀ σ H Q, t' σ H Q → t σ H Q) : PTs X e t' := ⟨fun pins s σ H Q I q => h.run pins s σ H Q I (w _ _ _ q)⟩
theorem _root_.L2.PSs.ex {X : Cx} {ι : Type} {e : List Stmt} {t : ι → TS} {P : ι → Prop} (h : ∀ i, P i → PSs X e (t i)) : PSs X e (fun D σ H => ∃ i, P i ∧ t i D σ H) := ⟨fun pins s σ H D I ⟨i, p, q⟩ => (h i p).run pins s σ H D I q⟩
theorem _root_.L2.PG.ex {X : Cx} {ι : Type} {e : Expr} {t : ι → TG} {P : ι → Prop} (h : ∀ i, P i → PG X e (t i)) : PG X e (fun v σ H Q => ∃ i, P i ∧ t i v σ H Q) := ⟨fun pins s σ H x u Q I r ⟨i, p, q⟩ => (h i p).run pins s σ H x u Q I r q⟩
theorem _root_.L2.PI.wk {X : Cx} {tg iter : Expr} {t t' : TI} (h : PI X tg iter t) (w : ∀ σ H Q, t' σ H Q → t σ H Q) : PI X tg iter t' := ⟨fun pins s σ H Q I q => h.run pins s σ H Q I (w _ _ _ q)⟩
end

/-! ### loops over plain data: what they come to -/
inductive Out (S R : Type) where
  | nx (s : S) | bk (s : S) | ct (s : S) | rt (r : R)
def forO {S R α : Type} (f : S → α → Option (Out S R)) : S → List α → Option (Out S R)
  | s, [] => some (.nx s)
  | s, x :: xs => match f s x with
    | none => none
    | some (.nx s') => forO f s' xs
    | some (.ct s') => forO f s' xs
    | some (.bk s') => some (.nx s')
    | some (.rt r) => some (.rt r)
def forS {S α : Type} (f : S → α → Option S) : S → List α → Option S
  | s, [] => some s
  | s, x :: xs => (f s x).bind fun s' => forS f s' xs
def whO {S R : Type} (c : S → Bool) (f : S → Option (Out S R)) : Nat → S → Option (Out S R)
  | 0, _ => none
  | n + 1, s => if c s = true then match f s with
    | none => none
    | some (.nx s') => whO c f n s'
    | some (.ct s') => whO c f n s'
    | some (.bk s') => some (.nx s')
    | some (.rt r) => some (.rt r)
    else some (.nx s)
def whS {S : Type} (c : S → Bool) (f : S → Option S) : Nat → S → Option S
  | 0, _ => none
  | n + 1, s => if c s = true then (f s).bind (whS c f n) else some s
def lcM {S α β : Type} (f : S → α → Option (S × Option β)) : S → List α → Option (S × List β)
  | s, [] => some (s, [])
  | s, x :: xs => (f s x).bind fun p => (lcM f p.1 xs).bind fun q => some (q.1, match p.2 with | some d => d :: q.2 | none => q.2)
theorem forS_O {S α R : Type} {f : S → α → Option S} : ∀ {xs : List α} {s s' : S}, forS f s xs = some s' → forO (R := R) (fun s x => (f s x).map Out.nx) s xs = some (.nx s')
  | [], s, s', h => by cases h; rfl
  | x :: xs, s, s', h => by
    unfold forS at h
    unfold forO
    cases e : f s x with
    | none => rw [e] at h; cases h
    | some s1 =>
      rw [e] at h
      exact forS_O h
theorem whS_O {S R : Type} {c : S → Bool} {f : S → Option S} : ∀ {n : Nat} {s s' : S}, whS c f n s = some s' → whO (R := R) c (fun s => (f s).map Out.nx) n s = some (.nx s')
  | 0, s, s', h => by cases h
  | n + 1, s, s', h => by
    unfold whS at h
    unfold whO
    by_cases hc : c s = true
    · rw [if_pos hc] at h ⊢
      cases e : f s with
      | none => rw [e] at h; cases h
      | some s1 =>
        rw [e] at h
        exact whS_O h
    · rw [if_neg hc] at h ⊢
      cases h; rfl
/-- an end as contexts tell it -/
def Out.o {S R : Type} (Γs : S → Ctx) (ρ : R → Ctx × M) : Out S R → O
  | .nx s => .nx (Γs s)
  | .bk s => .bk (Γs s)
  | .ct s => .ct (Γs s)
  | .rt r => .rt (ρ r).1 (ρ r).2

section
variable {X : Cx} {C : Cn} {Γ Γ1 Γ2 Γ3 Γ' : Ctx} {Ts Hs : List T} {e a b c tg iter : Expr} {pos p : Pos} {i j : Nat} {d : D} {ds : List D} {m : M} {k : Bool} {st : Stmt} {sts body els : List Stmt} {o o' : O} {S R α : Type} {Γs : S → Ctx} {ρ : R → Ctx × M} {s0 s1 : S}
theorem s_whileO {cb : S → Bool} {f : S → Option (Out S R)} {out : Out S R} {n : Nat} (hc : ∀ s, ET X C (Γs s) Hs c (Γs s) (cb s)) (hb : ∀ s out, cb s = true → f s = some out → SS X C Hs (Γs s) body (out.o Γs ρ)) (h : whO cb f n s0 = some out)
    (hp : PassesOwn (model X.prog X.w) X.A X.env X.xe := by exact PassesOwn.never) : S1 X C Hs (Γs s0) (.While c body [] pos) (out.o Γs ρ) := by
  have ps := ps_while (pos := pos) hp (PT.ex (P := fun _ => True) fun s _ => hc s) (PSs.ex (ι := S × Out S R) (P := fun q => cb q.1 = true ∧ f q.1 = some q.2) fun q hq => hb q.1 q.2 hq.1 hq.2)
  refine ps.wk fun σ H D ⟨⟨hs, h0⟩, q⟩ => ?_
  refine ⟨fun n σ H => ∃ s hs, As C (Γs s) Hs σ hs H ∧ whO cb f n s = some out, ⟨n, s0, hs, h0, h⟩, ?_⟩
  rintro n σ H ⟨s, hs, hA, hw⟩
  refine ⟨s, trivial, hs, hA, fun H1 h1 => ?_⟩
  cases n with
  | zero => cases hw
  | succ n =>
    unfold whO at hw
    cases hk : cb s with
    | false =>
      rw [hk, if_neg Bool.false_ne_true] at hw
      cases hw
      show (if false = true then _ else _)
      rw [if_neg Bool.false_ne_true]
      exact q σ hs H1 h1
    | true =>
      rw [hk, if_pos rfl] at hw
      show (if true = true then _ else _)
      rw [if_pos rfl]
      cases hf : f s with
      | none => rw [hf] at hw; cases hw
      | some out1 =>
        rw [hf] at hw
        refine ⟨fun σ' H' => ∃ s hs, As C (Γs s) Hs σ' hs H' ∧ whO cb f n s = some out, fun σ' H' z => ⟨n, Nat.lt_succ_self n, z⟩, (s, out1), ⟨hk, hf⟩, ⟨hs, h1⟩, ?_⟩
        cases out1 with
        | nx s' => exact fun σ' hs' H' h' => ⟨s', hs', h', hw⟩
        | ct s' => exact fun σ' hs' H' h' => ⟨s', hs', h', hw⟩
        | bk s' => cases hw; exact q
        | rt r => cases hw; exact q
theorem s_while {cb : S → Bool} {f : S → Option S} {n : Nat} (hc : ∀ s, ET X C (Γs s) Hs c (Γs s) (cb s)) (hb : ∀ s s', cb s = true → f s = some s' → SS X C Hs (Γs s) body (.nx (Γs s'))) (h : whS cb f n s0 = some s1)
    (hp : PassesOwn (model X.prog X.w) X.A X.env X.xe := by exact PassesOwn.never) : S1 X C Hs (Γs s0) (.While c body [] pos) (.nx (Γs s1)) :=
  s_whileO (R := Unit) (ρ := fun _ => ([], .im .non)) (out := .nx s1) hc (fun s out hk hf => by
    cases e : f s with
    | none => rw [e] at hf; cases hf
    | some s' => rw [e] at hf; cases hf; exact hb s s' hk e) (whS_O h) hp

/-! ### what is walked -/
def ir (C : Cn) (Γ : Ctx) (Hs : List T) (Γ1 : Ctx) (hx : V → T) (cond : Ctx → Prop) (ds : List D) : TI := fun σ H R => ∃ hs, As C Γ Hs σ hs H ∧
  ∀ v J H1, As C Γ1 (Hs ++ [hx v]) σ (hs ++ [v]) H1 → (∃ G Y, Walk J ds.length G Y ∧ (∀ Γ' σ' hs' H', cond Γ' → As C Γ' (Hs ++ [hx v]) σ' (hs' ++ [v]) H' → G H') ∧
    ∀ i H' x H'', i < ds.length → G H' → Y i H' x H'' → Ext H' H'' ∧ ∃ d, ds[i]? = some d ∧ rD C.K d x H'') → R J H1
abbrev IT (X : Cx) (C : Cn) (Hs : List T) (tg iter : Expr) (Γ Γ1 : Ctx) (hx : V → T) (cond : Ctx → Prop) (ds : List D) : Prop := PI X tg iter (ir C Γ Hs Γ1 hx cond ds)
/-- the value that is walked is told by its hidden place -/
def Fix (hx : V → T) : Prop := ∀ (K : PySem.W.Frag) (σ : L2.St) (v w : V) (H : Hp) (F : FS), rT K σ (hx v) w H F → w = v
theorem Fix.hid {m : M} : Fix (fun v => .hid m v) := fun K σ v w H F h => h.1
theorem Fix.hip {P : V → Hp → Prop} {s : ∀ v H H', TF H H' → P v H → P v H'} : Fix (fun v => .hip v (P v) (s v)) := fun K σ v w H F h => h.1
theorem Fix.hal {j : Nat} : Fix (fun v => .hal j v) := fun K σ v w H F h => h.1
theorem As.fix {hx : V → T} {v : V} {σ : L2.St} {us : List V} {H : Hp} (f : Fix hx) (h : As C Γ (Hs ++ [hx v]) σ us H) : ∃ vs, us = vs ++ [v] := by
  obtain ⟨vs, u, rfl⟩ := h.lnx
  obtain ⟨F, r, _⟩ := h.top
  exact ⟨vs, by rw [f _ _ _ _ _ _ r]⟩
theorem s_forO {f : S → α → Option (Out S R)} {enc : α → D} {xs : List α} {out : Out S R} {hx : V → T} {cond : Ctx → Prop} {Γt : S → α → Ctx} {J : List Nat} (hcm : X.calm = true) (fx : Fix hx)
    (it : IT X C Hs tg iter Γ (Γs s0) hx cond (xs.map enc)) (hcond : ∀ s, cond (Γs s)) (gt : ∀ v s x, GT X C (Hs ++ [hx v]) (Γs s) tg (enc x) (Γt s x) J)
    (hb : ∀ v s x out, f s x = some out → SS X C (Hs ++ [hx v]) (Γt s x) body (out.o Γs ρ)) (h : forO f s0 xs = some out)
    (hf : ∀ x, foldedSetIterable iter X.env x = pure x := by intro _; rfl) (hp : PassesOwn (model X.prog X.w) X.A X.env X.xe := by exact PassesOwn.never) : S1 X C Hs Γ (.For tg iter body [] pos) (out.o Γs ρ) := by
  have ps := ps_for (pos := pos) hp hcm it (PG.ex (ι := V × S × α) (P := fun _ => True) fun q _ => gt q.1 q.2.1 q.2.2) (PSs.ex (ι := V × S × α × Out S R) (P := fun q => f q.2.1 q.2.2.1 = some q.2.2.2) fun q hq => hb q.1 q.2.1 q.2.2.1 q.2.2.2 hq) hf
  refine ps.wk fun σ H D ⟨⟨hs1, h0⟩, q⟩ => ⟨hs1, h0, fun v Ji H1 hA ⟨G, Y, w, g1, g2⟩ => ?_⟩
  rw [List.length_map] at w g2
  -- the ends, told without what was hidden
  have qx : ∀ σ hs s H, out = .nx s → As C (Γs s) (Hs ++ [hx v]) σ hs H → D.nx σ H := fun σ hs s H e h' => by
    subst e
    obtain ⟨vs, rfl⟩ := As.fix fx h'
    exact q σ vs H h'.pop
  refine for_it (D := D) (g := fun v σ H Q => ∃ q : V × S × α, True ∧ gr C (Γs q.2.1) (Hs ++ [hx q.1]) (enc q.2.2) (Γt q.2.1 q.2.2) J v σ H Q)
    (tb := fun D σ H => ∃ q : V × S × α × Out S R, f q.2.1 q.2.2.1 = some q.2.2.2 ∧ sr C (Hs ++ [hx q.1]) (Γt q.2.1 q.2.2.1) (q.2.2.2.o Γs ρ) D σ H) w (fun i σ H => ∃ s hs, As C (Γs s) (Hs ++ [hx v]) σ (hs ++ [v]) H ∧ forO f s (xs.drop i) = some out) ⟨s0, hs1, hA, by simpa using h⟩ (fun i σ H _ ⟨s, hs, h', _⟩ => g1 _ σ hs H (hcond s) h') (fun i x σ H H' hi ⟨s, hs, h', hw⟩ y => ?_) (fun σ H ⟨s, hs, h', hw⟩ => ?_)
  · obtain ⟨ex, d, hd, rd⟩ := g2 i H x H' hi (g1 _ σ hs H (hcond s) h') y
    rw [List.getElem?_map] at hd
    have hxi : xs[i]? = some xs[i] := List.getElem?_eq_getElem hi
    rw [hxi] at hd
    cases hd
    have hdr : xs.drop i = xs[i] :: xs.drop (i + 1) := List.drop_eq_getElem_cons hi
    rw [hdr] at hw
    refine ⟨(v, s, xs[i]), trivial, _, h'.ext ex, rd, fun σ2 ag h2 => ?_⟩
    cases hfx : f s xs[i] with
    | none => unfold forO at hw; rw [hfx] at hw; cases hw
    | some out1 =>
      unfold forO at hw
      rw [hfx] at hw
      refine ⟨(v, s, xs[i], out1), hfx, ⟨_, h2⟩, ?_⟩
      cases out1 with
      | nx s' =>
        intro σ3 hs3 H3 h3
        obtain ⟨vs, rfl⟩ := As.fix fx h3
        exact ⟨s', vs, h3, hw⟩
      | ct s' =>
        intro σ3 hs3 H3 h3
        obtain ⟨vs, rfl⟩ := As.fix fx h3
        exact ⟨s', vs, h3, hw⟩
      | bk s' =>
        cases hw
        exact fun σ3 hs3 H3 h3 => qx σ3 hs3 s' H3 rfl h3
      | rt r =>
        cases hw
        intro σ3 hs3 v3 H3 h3
        · have h3' : As C (ρ r).1 ((Hs ++ [hx v]) ++ [.own (ρ r).2]) σ3 (hs3 ++ [v3]) H3 := h3
          obtain ⟨vs, rfl⟩ := As.fix fx h3'.pop
          exact q σ3 vs v3 H3 h3'.mid
  · rw [List.drop_length] at hw
    cases hw
    exact qx σ _ s H rfl h'
end
end RL

set_option maxHeartbeats 4000000
/-! RE1: enumerate over a tuple and over a text -/
namespace RL
open PySem L2
open PySem.AutoSeq1 (wpAny_loadPart')

/-- a new enumerate object over whatever begins so -/
theorem enum_make {v : Value} {o : Obj} {W : Heap → Prop} (B : Begins v o W) :
    Meets (Builtin.«enumerate.__new__» ⟨[.type "enumerate", v], []⟩) (fun _ R s => W s.heap ∧
      R (.ok (.ret (.ref (s.heap.push o).objs.size))) { s with heap := (s.heap.push o).push { cls := .type "enumerate", data := .fields #[.none, .bool false, .ref s.heap.objs.size, rawInt 0, .none, .none] } }) :=
  .of_wp fun P w A R s hh => by
    obtain ⟨hp, gs, dr, tk, os⟩ := s
    obtain ⟨hW, hR⟩ := hh
    have se := sub_enumerate
    have it : ∀ {A1 : Around} {E1 : Value → Shared → Prop} {Q1 : Value → Shared → Prop}, Q1 (.ref hp.objs.size) ⟨hp.push o, gs, dr, tk, os⟩ → wpAny (model P w) A1 (pyIter v) Q1 E1 ⟨hp, gs, dr, tk, os⟩ :=
      fun q => B.iter P w _ _ ⟨hp, gs, dr, tk, os⟩ _ hW q
    wp_walk using it
    refine wpAny_stack_any fun stk => wpAny_pure ?_
    split
    · rename_i c _ _ _ _ _
      cases (c == Value.type "enumerate")
      all_goals
        wp_walk using it
        exact ⟨_, rfl, hR⟩
    · wp_walk using it
      exact ⟨_, rfl, hR⟩
section
variable {P : Program} {w : World} {A : Around} {E : Value → Shared → Prop} {s : Shared}
theorem enum_call {v : Value} {o : Obj} {W : Heap → Prop} {Q : Value → Shared → Prop} (B : Begins v o W) (hW : W s.heap)
    (h : ∀ h', IsEnum h' (s.heap.objs.size + 1) s.heap.objs.size 0 .none → h'.get? s.heap.objs.size = some o → h'.objs.size = s.heap.objs.size + 2 →
      (∀ b u, s.heap.get? b = some u → h'.get? b = some u) → Q (.ref (s.heap.objs.size + 1)) { s with heap := h' }) :
    wpAny (model P w) A (call (.type "enumerate") [v]) Q E s := by
  refine callType_new F.called_enumerate (by decide) (F.typeCall_enumerate_1 _) (F.newCall_enumerate_1 _) (fun x => F.args_object_init_2 x _) F.entry_enumerate_new (enum_make B) ⟨hW, ?_⟩
  have e1 : (s.heap.push o).objs.size = s.heap.objs.size + 1 := Heap.size_push ..
  show _ ∧ _
  rw [e1]
  have e2 : IsEnum ((s.heap.push o).push { cls := .type "enumerate", data := .fields #[.none, .bool false, .ref s.heap.objs.size, rawInt 0, .none, .none] }) (s.heap.objs.size + 1) s.heap.objs.size 0 .none := by
    have z := Heap.get?_push_size (s.heap.push o) (o := { cls := .type "enumerate", data := .fields #[.none, .bool false, .ref s.heap.objs.size, rawInt 0, .none, .none] }) rfl
    rw [e1] at z
    exact z
  exact ⟨⟨_, e2, rfl⟩, h _ e2 (Heap.get?_push_of_some _ (Heap.get?_push_size _ B.free)) (by rw [Heap.size_push, e1]) fun b u z => Heap.get?_push_of_some _ (Heap.get?_push_of_some _ z)⟩
end

section
variable {P : Program} {w : World} {A : Around} {E : Value → Shared → Prop} {s : Shared}
theorem enum_endT {e it t : Addr} {j : Int} {i : Nat} {items : Array Value} {old : Value} {Q : Option Value → Shared → Prop} (hh : A.handled = none)
    (he : IsEnum s.heap e it j old) (hit : s.heap.IsTupleIter it t i) (hl : s.heap.IsTuple t items) (hx : items[i]? = none)
    (hQ : ∀ h', Heap.ExtBut it s.heap h' → Q none { s with heap := h' }) : wpAny (model P w) A (pyNext (.ref e)) Q E s := by
  have ty : s.TypeIs (.ref e) "enumerate" := ⟨_, he, rfl⟩
  unfold pyNext
  refine wpAny_bind (wpAny_attempt (wpAny_callSpecial?_slot (name := Str.ofString "__next__") ty F.slot_enumerate_next (wpAny_call_entry F.slot_enumerate_next ty F.entry_enumerate_next ?_ (F.args_enumerate_next_1 _))))
  show wpAny _ _ (field (.ref e) 2 >>= _) _ _ _
  refine wpAny_bind (wpAny_field he rfl (x := .ref it) rfl ?_)
  refine wpAny_bind (wpAny_nextOf_tuple_end hh hit hl hx fun h' x he' hx' => ?_)
  obtain ⟨o, ho, hc⟩ := hx'
  refine wpAny_bind (wpAny_isInstance (T := "StopIteration") (b := true) ⟨o, ho, hc⟩ isSubtype_stop ?_)
  exact wpAny_pure (hQ _ he')
end
/-- the items of the tuple at a, each in a new pair with its place -/
def Itet (K : PySem.W.Frag) (a : Addr) : It :=
  ⟨fun i H => ∃ (xs : List V) (x : V), SqT K H a xs ∧ xs[i]? = some x, fun i H v H' => ∃ q x o, v = .ref q ∧ H q = none ∧ o.dict = none ∧ H' = upd H q (.frz o (.tup [.int (i : Nat), x])) ∧ ∀ xs, SqT K H a xs → xs[i]? = some x, fun i H => ∃ xs : List V, SqT K H a xs ∧ xs.length ≤ i⟩
theorem turn_enumT {P : Program} {w : World} {K : PySem.W.Frag} {elts : List Expr} {kk : Nat} {tpos : Pos} (a e it : Addr) :
    Turn P w K (.Tuple elts kk tpos) (Itet K a) [e, it] e (fun i h => (∃ old, IsEnum h e it ((i : Nat) : Int) old) ∧ h.IsTupleIter it a i ∧ e ≠ it ∧ a ≠ it ∧ a ≠ e) := by
  constructor
  · simp
  · intro i h ⟨⟨old, he⟩, ⟨o, ho, hc, hd⟩, _⟩ b hb
    rcases List.mem_cons.mp hb with z | z
    · subst z
      exact ⟨_, he, fun v q => nomatch q⟩
    · have z := List.mem_singleton.mp z
      subst z
      exact ⟨o, ho, fun v q => by rw [hd] at q; cases q⟩
  · intro i h h' ⟨⟨old, he⟩, hi, ne⟩ k
    exact ⟨⟨old, k e (by simp) _ he⟩, hi.at fun o q => k it (by simp) o q, ne⟩
  · intro X hP hw hK hc i pins s σ H E I hf st hg
    subst hP hw hK
    obtain ⟨⟨old, he⟩, hit, hne, ha1, ha2⟩ := st
    obtain ⟨xs, x, hq, hx⟩ := hg
    obtain ⟨its, rv, p, hz⟩ := I.tuple hq
    have el : e < s.heap.objs.size := Heap.lt_size he
    have il : it < s.heap.objs.size := by obtain ⟨_, q, _⟩ := hit; exact Heap.lt_size q
    have hit2 := hit
    have pt : s.heap.IsTuple a its.toArray := p
    have hn : i < its.toArray.size := by
      rw [List.size_toArray, ← rv.length]
      exact (List.getElem?_eq_some_iff.mp hx).1
    have hef : e ∉ [it, a] := by simp; exact ⟨hne, fun z => ha2 z.symm⟩
    refine wpAny_pyNext_enum_itemD (Draws.tuple (A := X.A.in1) (I.ok.hd hc) it a ha1 its.toArray) he ⟨hit, pt⟩ hn hne hef fun y h' tk hy ho hst' hT hsz hk => ?_
    obtain ⟨hit', pt'⟩ := hst'
    obtain ⟨y', hy', ry⟩ := rv.get hx
    have yy : y = y' := by
      have q1 : its.toArray[i]? = some y := hy
      rw [List.getElem?_toArray] at q1
      rw [q1] at hy'
      exact Option.some.inj hy'
    subst yy
    refine ⟨_, rfl, wpAny_letOwnedTupleGo_enum (s := { s with heap := h', toks := tk + 1 }) ho fun h2 he2 sb => ?_⟩
    have hT2 : h2.get? s.heap.objs.size = some { cls := .type "tuple", data := .seq #[.int i tk, y] } := (sb.2 _ (Nat.ne_of_gt el)).trans hT
    have new : ObjOk X.prog X.w (upd H s.heap.objs.size (.frz { cls := .type "tuple", data := .seq #[.int i tk, y] } (.tup [.int (i : Nat), x]))) h2 s.heap.objs.size (.frz { cls := .type "tuple", data := .seq #[.int i tk, y] } (.tup [.int (i : Nat), x])) := by
      refine ⟨hT2, by show 2 ≤ sizeLine; decide, [.int i tk, y], .cons ⟨_, rfl⟩ (.cons ry .nil), ?_⟩
      exact ⟨_, hT2, rfl, _, rfl⟩
    have I1 : Inv X pins σ (upd H s.heap.objs.size (.frz { cls := .type "tuple", data := .seq #[.int i tk, y] } (.tup [.int (i : Nat), x]))) { s with heap := h2, toks := tk + 1 } := by
      refine I.turnedNew (ch := [e, it]) (fun b ob hb q => ?_) hf (Nat.le_refl _) new
      have n1 : b ≠ e := fun z => hb (by simp [z])
      have n2 : b ≠ it := fun z => hb (by simp [z])
      exact (sb.2 b n1).trans (hk b ob n1 n2 q)
    refine ⟨.ref s.heap.objs.size, _, I1, rfl, ⟨_, x, _, rfl, I.hok.fresh (Nat.le_refl _), rfl, rfl, fun ys hys => by rw [I.tuple_inj hys hq]; exact hx⟩, ⟨⟨y, ?_⟩, hit'.at fun o q => (sb.2 it (Ne.symm hne)).trans q, hne, ha1, ha2⟩, fun b hb => ?_⟩
    · have e1 : ((i + 1 : Nat) : Int) = (i : Int) + 1 := by omega
      rw [e1]
      exact he2
    · have lt : b < s.heap.objs.size := by
        rcases List.mem_cons.mp hb with z | z
        · rw [z]; exact el
        · rw [List.mem_singleton.mp z]; exact il
      rw [upd_ne (Nat.ne_of_lt lt)]
      exact (hf b hb).1
  · intro X hP hw hK hc i pins s σ H E I hf st hg
    subst hP hw hK
    obtain ⟨⟨old, he⟩, hit, hne, ha1, ha2⟩ := st
    obtain ⟨xs, hq, hx⟩ := hg
    obtain ⟨its, rv, p, hz⟩ := I.tuple hq
    have pt : s.heap.IsTuple a its.toArray := p
    obtain ⟨f0, f1, f2, f3, f4, f5⟩ := hf it (by simp)
    -- at its end: no item at place i
    refine enum_endT (I.ok.hd hc) he hit pt (by rw [List.getElem?_toArray]; exact List.getElem?_eq_none_iff.mpr (by rw [← rv.length]; exact hx)) fun h' eb => ⟨rfl, I.turned (t' := s.toks) (fun b o hb q => eb b o hb q) f0 f1 f3 f4 f5⟩
  · intro A i s Q E ⟨⟨_, he⟩, _⟩ h
    exact wpAny_pyIter_enum he h
/-! ### the same of lists -/
end RL

set_option maxHeartbeats 2000000
/-! RL7: lists, what loops walk, comprehensions, a def's body -/
namespace RL
open PySem L2

/-! ### enumerate(tuple) begins -/
def iEnumT (K : PySem.W.Frag) (ta : TA) : TI := fun σ H R => ta σ H fun vs H1 => ∃ a xs, vs = [.ref a] ∧ SqT K H1 a xs ∧ R (Itet K a) H1
theorem pi_enumT {X : Cx} {e : Expr} {ta : TA} {p pos tpos : Pos} {elts : List Expr} {kk : Nat} (hg : Gl X "enumerate") (hm : X.mg "enumerate" = none) (ha : PA X [e] ta) (hs : starEach [e] X.env = [(false, eval e X.env)] := by rfl) :
    PI X (.Tuple elts kk tpos) (.Call (.Name "enumerate" p) [e] [] pos) (iEnumT X.K ta) := by
  constructor
  intro pins s σ H R I h
  refine PyProof.Rows.Call_ (ld_blt I hg hm PyProof.Rows.boot_enumerate (PyProof.Rows.callWith_type1 (thn (ha.run pos pins s σ H _ I h) fun us s1 ⟨vs, H1, I1, r1, a, xs, ex, hq, q⟩ => ?_) hs rfl))
  subst ex
  obtain ⟨u, rfl, ru⟩ := Vals.one r1
  cases (show u = Value.ref a from ru)
  obtain ⟨its, rv, p', hz⟩ := I1.tuple hq
  have pt : s1.heap.IsTuple a its.toArray := p'
  have al : a < s1.heap.objs.size := p'.lt
  refine enum_call (begins_tuple a its.toArray) pt fun h' he hit hsz hk => wpAny_pyIter_enum he ?_
  have I2 : Inv X pins σ H1 { s1 with heap := h' } := I1.kept (t' := s1.toks) hk
  refine ⟨s1.heap.objs.size + 1, [s1.heap.objs.size + 1, s1.heap.objs.size], _, _, H1, rfl, I2, turn_enumT a (s1.heap.objs.size + 1) s1.heap.objs.size, ⟨⟨.none, he⟩, ⟨_, hit, rfl, rfl⟩, Nat.succ_ne_self _, Nat.ne_of_lt al, Nat.ne_of_lt (Nat.lt_succ_of_lt al)⟩, fun b hb => ?_, q⟩
  have hle : s1.heap.objs.size ≤ b := by
    rcases List.mem_cons.mp hb with z | z
    · rw [z]; exact Nat.le_succ _
    · rw [List.mem_singleton.mp z]; exact Nat.le_refl _
  exact I1.fpOk hle (I1.hok.fresh hle)

/-! ### lists of data -/
theorem rDs.get {K : PySem.W.Frag} {H : Hp} : ∀ {ds : List D} {us : List V} {i : Nat} {d : D}, rDs K ds us H → ds[i]? = some d → ∃ u, us[i]? = some u ∧ rD K d u H
  | [], us, i, d, h, e => by simp at e
  | d0 :: ds, us, i, d, h, e => by
    unfold rDs at h
    obtain ⟨w, ws, rfl, r, s⟩ := h
    cases i with
    | zero => simp at e; subst e; exact ⟨w, rfl, r⟩
    | succ i =>
      obtain ⟨u, h1, h2⟩ := rDs.get (i := i) s (by simpa using e)
      exact ⟨u, by simpa using h1, h2⟩
theorem rDs.get2 {K : PySem.W.Frag} {H : Hp} {ds : List D} {us : List V} {i : Nat} {u : V} (h : rDs K ds us H) (e : us[i]? = some u) : ∃ d, ds[i]? = some d ∧ rD K d u H := by
  have hl := h.len
  have hi : i < ds.length := by rw [← hl]; exact (List.getElem?_eq_some_iff.mp e).1
  obtain ⟨u', h1, h2⟩ := h.get (List.getElem?_eq_getElem hi)
  rw [e] at h1
  cases h1
  exact ⟨_, List.getElem?_eq_getElem hi, h2⟩
theorem rDs.app {K : PySem.W.Frag} {H : Hp} : ∀ {ds es : List D} {us ws : List V}, rDs K ds us H → rDs K es ws H → rDs K (ds ++ es) (us ++ ws) H
  | [], es, us, ws, h, g => by unfold rDs at h; subst h; exact g
  | d :: ds, es, us, ws, h, g => by
    unfold rDs at h
    obtain ⟨w, vs, rfl, r, s⟩ := h
    show rDs K (d :: (ds ++ es)) (w :: (vs ++ ws)) H
    unfold rDs
    exact ⟨w, _, rfl, r, s.app g⟩
theorem rDs.drop {K : PySem.W.Frag} {H : Hp} : ∀ {ds : List D} {us : List V} (n : Nat), rDs K ds us H → rDs K (ds.drop n) (us.drop n) H
  | ds, us, 0, h => h
  | [], us, n + 1, h => by unfold rDs at h; subst h; simp; unfold rDs; rfl
  | d :: ds, us, n + 1, h => by
    unfold rDs at h
    obtain ⟨w, vs, rfl, r, s⟩ := h
    exact s.drop n
theorem rDs.take {K : PySem.W.Frag} {H : Hp} : ∀ {ds : List D} {us : List V} (n : Nat), rDs K ds us H → rDs K (ds.take n) (us.take n) H
  | ds, us, 0, h => by simp; unfold rDs; rfl
  | [], us, n + 1, h => by unfold rDs at h; subst h; simp; unfold rDs; rfl
  | d :: ds, us, n + 1, h => by
    unfold rDs at h
    obtain ⟨w, vs, rfl, r, s⟩ := h
    show rDs K (d :: ds.take n) (w :: vs.take n) H
    unfold rDs
    exact ⟨w, _, rfl, r, s.take n⟩
theorem rDs.one {K : PySem.W.Frag} {H : Hp} {d : D} {v : V} (h : rD K d v H) : rDs K [d] [v] H := by
  unfold rDs
  exact ⟨v, [], rfl, h, by unfold rDs; rfl⟩
theorem rDs.rev {K : PySem.W.Frag} {H : Hp} : ∀ {ds : List D} {us : List V}, rDs K ds us H → rDs K ds.reverse us.reverse H
  | [], us, h => by unfold rDs at h; subst h; exact (by unfold rDs; rfl)
  | d :: ds, us, h => by
    unfold rDs at h
    obtain ⟨w, vs, rfl, r, s⟩ := h
    rw [List.reverse_cons, List.reverse_cons]
    exact s.rev.app (.one r)
theorem rDs.at {K : PySem.W.Frag} {H : Hp} {ds : List D} {us : List V} {i : Int} {d : D} (h : rDs K ds us H) (e : atI ds i = some d) : ∃ u, atI us i = some u ∧ rD K d u H := by
  unfold atI at e ⊢
  rw [h.len]
  cases q : ixN ds.length i with
  | none => rw [q] at e; cases e
  | some j =>
    rw [q] at e
    exact h.get e
/-- the items of xs[lo:hi], of any kind -/
def cutL {α : Type} (xs : List α) (lo hi : Option Int) : List α := (xs.drop (HT.sIx xs.length 0 lo)).take (HT.sIx xs.length xs.length hi - HT.sIx xs.length 0 lo)
theorem rDs.cut {K : PySem.W.Frag} {H : Hp} {ds : List D} {us : List V} (lo hi : Option Int) (h : rDs K ds us H) : rDs K (cutL ds lo hi) (cutV us lo hi) H := by
  unfold cutL cutV
  rw [h.len]
  exact (h.drop _).take _
theorem cutL_map {α β : Type} (f : α → β) (xs : List α) (lo hi : Option Int) : cutL (xs.map f) lo hi = (cutL xs lo hi).map f := by
  unfold cutL
  rw [List.length_map, ← List.map_drop, List.map_take]

section
variable {X : Cx} {C : Cn} {Γ Γ1 Γ2 Γ3 Γ' : Ctx} {Ts Hs : List T} {t t1 t2 t3 : T} {ts : List T} {e a b c tg iter : Expr} {es rest : List Expr} {pos p p2 : Pos} {i j : Nat} {d d1 d2 d3 : D} {ds ds' : List D} {m : M} {b1 b2 k : Bool}
/-- a list of data: in a slot, on the stack, or one that never changes -/
inductive Src (Γ : Ctx) : T → List D → Prop where
  | al {j : Nat} {ds : List D} (h : Γ[j]? = some (some (.li ds))) : Src Γ (.al j) ds
  | own {ds : List D} : Src Γ (.own (.li ds)) ds
  | fz {ds : List D} : Src Γ (.im (.lst ds)) ds
  | alf {j : Nat} {ds : List D} (h : Γ[j]? = some (some (.im (.lst ds)))) : Src Γ (.al j) ds
/-- one that may change -/
inductive SrcS (Γ : Ctx) : T → List D → Prop where
  | al {j : Nat} {ds : List D} (h : Γ[j]? = some (some (.li ds))) : SrcS Γ (.al j) ds
  | own {ds : List D} : SrcS Γ (.own (.li ds)) ds
theorem As.srcS {σ : L2.St} {vs : List V} {v : V} {H : Hp} (h : As C Γ (Ts ++ [t]) σ (vs ++ [v]) H) (s : SrcS Γ t ds) : ∃ a us, v = .ref a ∧ H a = some (.lst us) ∧ rDs C.K ds us H := by
  cases s with
  | al hj =>
    obtain ⟨w, F, hw, r, _⟩ := h.slot hj
    obtain ⟨G, ⟨g, _⟩, _⟩ := h.top
    rw [hw] at g
    cases g
    unfold rM at r
    obtain ⟨a, us, e, hl, rd, _⟩ := r
    exact ⟨a, us, e, hl, rd⟩
  | own =>
    obtain ⟨F, r, _⟩ := h.top
    have r : rM C.K (.li ds) v H F := r
    unfold rM at r
    obtain ⟨a, us, e, hl, rd, _⟩ := r
    exact ⟨a, us, e, hl, rd⟩
theorem As.src {σ : L2.St} {vs : List V} {v : V} {H : Hp} (h : As C Γ (Ts ++ [t]) σ (vs ++ [v]) H) (s : Src Γ t ds) : ∃ a us, v = .ref a ∧ SqL C.K H a us ∧ rDs C.K ds us H := by
  cases s with
  | al hj =>
    obtain ⟨a, us, e, hl, rd⟩ := h.srcS (.al hj)
    exact ⟨a, us, e, SqL.of hl, rd⟩
  | own =>
    obtain ⟨a, us, e, hl, rd⟩ := h.srcS .own
    exact ⟨a, us, e, SqL.of hl, rd⟩
  | fz =>
    have r := h.topIm
    unfold rD at r
    obtain ⟨a, us, e, hl, rd⟩ := r
    exact ⟨a, us, e, hl.sq, rd⟩
  | alf hj =>
    obtain ⟨w, hw, r⟩ := h.slotIm hj
    obtain ⟨G, ⟨g, _⟩, _⟩ := h.top
    rw [hw] at g
    cases g
    unfold rD at r
    obtain ⟨a, us, e, hl, rd⟩ := r
    exact ⟨a, us, e, hl.sq, rd⟩
/-- the list in the slot j becomes another one -/
theorem As.lset {σ : L2.St} {vs : List V} {H : Hp} (h : As C Γ Ts σ vs H) (hj : Γ[j]? = some (some (.li ds))) : ∃ a us, σ[j]? = some (some (.ref a)) ∧ H a = some (.lst us) ∧ rDs C.K ds us H ∧
    ∀ us' ds', rDs C.K ds' us' H → As C (Γ.set j (some (.li ds'))) Ts σ vs (upd H a (.lst us')) := by
  obtain ⟨w, F, hw, r, q⟩ := h.slot hj
  unfold rM at r
  obtain ⟨a, us, e, hl, rd, hF⟩ := r
  subst e
  refine ⟨a, us, hw, hl, rd, fun us' ds' rd' => ?_⟩
  have mu : Mut (H a) := by rw [hl]; trivial
  have tf : TF H (upd H a (.lst us')) := TF.write mu
  refine q (.li ds') _ F tf (fun b nb _ => upd_ne fun z => nb ((hF b).2 z)) ?_ fun b hb => .inl hb
  unfold rM
  exact ⟨a, us', rfl, upd_same, rd'.tf tf, hF⟩
/-! #### places and parts of lists and tuples -/
theorem r2s_ixL {n : Int} (s : Src Γ t ds) (h : atI ds n = some d) (hK : X.K = C.K) : R2S C Γ Ts t (.im (.int n)) (rIxL X.K) Γ (.im d) := fun σ vs x y H hA Q q => by
  have hy := hA.topIm
  unfold rD at hy
  obtain ⟨a, us, e, hl, rd⟩ := hA.pop.src s
  obtain ⟨u, hu, ru⟩ := rd.at h
  exact ⟨a, us, n, u, e, hy, by rw [hK]; exact hl, hu, q u H (hA.pop.pop.pushIm Ext.refl ru)⟩
theorem ee_ixL {n : Int} (h1 : EE X C Γ Ts a Γ1 t) (h2 : EE X C Γ1 (Ts ++ [t]) b Γ2 (.im (.int n))) (s : Src Γ2 t ds) (h : atI ds n = some d) (hs : PlainIx b := by exact fun _ _ => rfl) (hK : X.K = C.K := by rfl) : EE X C Γ Ts (.Subscript a b pos) Γ2 (.im d) := ee_ix ix_list hs h1 h2 (r2s_ixL s h hK)
theorem ee_ixT {n : Int} (h1 : EE X C Γ Ts a Γ1 (.im (.tup ds))) (h2 : EE X C Γ1 (Ts ++ [.im (.tup ds)]) b Γ2 (.im (.int n))) (h : atI ds n = some d) (hs : PlainIx b := by exact fun _ _ => rfl) (hK : X.K = C.K := by rfl) : EE X C Γ Ts (.Subscript a b pos) Γ2 (.im d) := ee_ix ix_tup hs h1 h2 (r2s_im fun x y H hx hy Q q => by
  unfold rD at hx hy
  obtain ⟨a, us, e, hl, rd⟩ := hx
  obtain ⟨u, hu, ru⟩ := rd.at h
  exact ⟨a, us, n, u, e, hy, by rw [hK]; exact hl.t, hu, q u ru⟩)
/-- a part of a slice -/
def por (C : Cn) (Γ : Ctx) (Ts : List T) (Γ' : Ctx) (o : Option Int) : TO := fun σ H Q => ∃ vs, As C Γ Ts σ vs H ∧ ∀ H', As C Γ' Ts σ vs H' → Q o H'
abbrev EP (X : Cx) (C : Cn) (Γ : Ctx) (Ts : List T) (e : Option Expr) (Γ' : Ctx) (o : Option Int) : Prop := PO X e (por C Γ Ts Γ' o)
theorem _root_.L2.PO.wk {X : Cx} {e : Option Expr} {t t' : TO} (h : PO X e t) (w : ∀ σ H Q, t' σ H Q → t σ H Q) : PO X e t' := ⟨fun pins s σ H Q I q => h.run pins s σ H Q I (w _ _ _ q)⟩
theorem ep_none : EP X C Γ Ts none Γ none := po_none.wk fun σ H Q ⟨vs, h, q⟩ => q H h
theorem ep_some {n : Int} (h : EE X C Γ Ts e Γ1 (.im (.int n))) : EP X C Γ Ts (some e) Γ1 (some n) := (po_some h).wk fun σ H Q ⟨vs, h, q⟩ => ⟨vs, h, fun v H' h' => by
  have e := h'.topIm
  unfold rD at e
  exact ⟨n, e, q H' h'.pop⟩⟩
theorem ee_slL {lo hi : Option Expr} {l u : Option Int} (h1 : EE X C Γ Ts a Γ1 t) (h2 : EP X C Γ1 (Ts ++ [t]) lo Γ2 l) (h3 : EP X C Γ2 (Ts ++ [t]) hi Γ3 u) (s : Src Γ3 t ds) (hK : X.K = C.K := by rfl) : EE X C Γ Ts (.Subscript a (.Slice lo hi none p2) pos) Γ3 (.own (.li (cutL ds l u))) :=
  (pe_slice sl_list h1 h2 h3).wk fun σ H Q ⟨vs, h, q⟩ => ⟨vs, h, fun v H1 h1 => ⟨vs ++ [v], h1, fun H2 h2 => ⟨vs ++ [v], h2, fun H3 h3 => by
    obtain ⟨a, us, e, hl, rd⟩ := h3.src s
    refine ⟨a, us, e, by rw [hK]; exact hl, fun p hp => q _ _ (h3.pop.push (Ext.new hp) (t := .own (.li (cutL ds l u))) (F := fun x => x = p) ?_ (fun x e => by rw [e]; exact hp) fun x e => by rw [e, upd_same]; trivial)⟩
    show rM _ _ _ _ _
    unfold rM
    exact ⟨p, _, rfl, upd_same, (rd.cut l u).tf (Ext.new hp).tf, fun _ => Iff.rfl⟩⟩⟩⟩
theorem ee_slT {lo hi : Option Expr} {l u : Option Int} (h1 : EE X C Γ Ts a Γ1 (.im (.tup ds))) (h2 : EP X C Γ1 (Ts ++ [.im (.tup ds)]) lo Γ2 l) (h3 : EP X C Γ2 (Ts ++ [.im (.tup ds)]) hi Γ3 u) (hK : X.K = C.K := by rfl) : EE X C Γ Ts (.Subscript a (.Slice lo hi none p2) pos) Γ3 (.im (.tup (cutL ds l u))) :=
  (pe_slice sl_tupN h1 h2 h3).wk fun σ H Q ⟨vs, h, q⟩ => ⟨vs, h, fun v H1 h1 => ⟨vs ++ [v], h1, fun H2 h2 => ⟨vs ++ [v], h2, fun H3 h3 => by
    have r := h3.topIm
    unfold rD at r
    obtain ⟨a, us, e, hl, rd⟩ := r
    refine ⟨a, us, e, by rw [hK]; exact hl.t, fun hw => q _ H3 (h3.pop.pushIm Ext.refl ?_), fun _ p o hp ho => q _ _ (h3.pop.pushIm (Ext.new hp) ?_)⟩
    · unfold rD
      refine ⟨a, us, rfl, hl, ?_⟩
      have e2 : cutL ds l u = ds := by
        unfold cutL
        rw [← rd.len, hw.1, hw.2]
        simp [rd.len]
      rw [e2]
      exact rd
    · unfold rD
      exact ⟨p, _, rfl, SqN.new upd_same ho, (rd.cut l u).tf (Ext.new hp).tf⟩⟩⟩⟩
theorem ee_revL {q1 q2 q3 : Pos} {kk : Nat} (h1 : EE X C Γ Ts a Γ1 t) (s : Src Γ1 t ds) (hK : X.K = C.K := by rfl) : EE X C Γ Ts (.Subscript a (.Slice none none (some (.UnaryOp .USub (.Constant (.int 1) kk q1) q2)) q3) pos) Γ1 (.own (.li ds.reverse)) :=
  (pe_revL h1).wk fun σ H Q ⟨vs, h, q⟩ => ⟨vs, h, fun v H1 h1 => by
    obtain ⟨a, us, e, hl, rd⟩ := h1.src s
    refine ⟨a, us, e, by rw [hK]; exact hl, fun p hp => q _ _ (h1.pop.push (Ext.new hp) (t := .own (.li ds.reverse)) (F := fun x => x = p) ?_ (fun x e => by rw [e]; exact hp) fun x e => by rw [e, upd_same]; trivial)⟩
    show rM _ _ _ _ _
    unfold rM
    exact ⟨p, _, rfl, upd_same, rd.rev.tf (Ext.new hp).tf, fun _ => Iff.rfl⟩⟩
/-! #### methods of lists in slots -/
theorem tyV_lst {K : PySem.W.Frag} {a : Addr} {us : List V} {H : Hp} (h : H a = some (.lst us)) : tyV K "list" (.ref a) H := .inl ⟨rfl, us, SqL.of h⟩
theorem ee_append {nm : Expr} {apos cpos : Pos} (j : Nat) (hn : PE X nm (tVar j)) (hj : Γ[j]? = some (some (.li ds'))) (h1 : EE X C Γ (Ts ++ [.al j]) e Γ1 (.im d)) (hj1 : Γ1[j]? = some (some (.li ds))) (hl : ds.length < sizeLine)
    (hbase : attributeBase nm "append" X.env (eval nm X.env) = eval nm X.env := by rfl)
    (hfew : ((backTo cpos (starEach [e] X.env)).all (fun x => !x.1) && (backToKw cpos (keywordEach [] X.env)).all (fun x => x.1.isSome)
      && decide ([e].length + ([] : List Keyword).length + (if ([] : List Keyword).isEmpty then 0 else 1) < 30)) = true := by rfl)
    (hline : (apos.endLine == cpos.line) = true := by rfl) (hs : starEach [e] X.env = (false, eval e X.env) :: starEach [] X.env := by rfl) (hplain : (backTo cpos (starEach [] X.env)).any (·.1) = false := by rfl) :
    EE X C Γ Ts (.Call (.Attribute nm "append" apos) [e] [] cpos) (Γ1.set j (some (.li (ds ++ [d])))) (.im .non) := by
  refine (pe_bm PySem.F.plainAttrs_list PySem.F.slot_list_append PySem.F.type_list_append mt_append (ee_al (C := C) (Γ := Γ) (Ts := Ts) j hn hj) (ea_cons h1 ea_nil hs) hbase hfew hline hs hplain).wk fun σ H Q ⟨vs, h, q⟩ => ⟨vs, h, fun v H1 h1 => ?_⟩
  obtain ⟨a0, us0, e0, hl0, _⟩ := h1.srcS (.al hj)
  subst e0
  refine ⟨tyV_lst hl0, vs ++ [.ref a0], h1, fun us H2 hlen h2 => ?_⟩
  obtain ⟨u, rfl⟩ : ∃ u, us = [u] := List.length_eq_one_iff.mp hlen
  have rd := h2.topIm
  have h3 := h2.pop
  obtain ⟨a1, us1, e1, hl1, rd1⟩ := h3.srcS (.al hj1)
  cases e1
  obtain ⟨a2, us2, hσ, hl2, rd2, put⟩ := h3.pop.lset hj1
  have ea : a2 = a0 := by
    obtain ⟨F, ⟨g, _⟩, _⟩ := h3.top
    rw [hσ] at g
    injection g with g; injection g with g; injection g
  subst ea
  rw [hl1] at hl2
  cases hl2
  exact ⟨a2, us1, u, rfl, rfl, hl1, by rw [rd1.len]; exact hl, q _ _ ((put _ _ (rd1.app (.one rd))).pushIm Ext.refl (by unfold rD; rfl))⟩
theorem ee_pop {nm : Expr} {apos cpos : Pos} (j : Nat) (hn : PE X nm (tVar j)) (hj : Γ[j]? = some (some (.li ds))) (hd : ds.getLast? = some d)
    (hbase : attributeBase nm "pop" X.env (eval nm X.env) = eval nm X.env := by rfl) (hline : (apos.endLine == cpos.line) = true := by rfl) :
    EE X C Γ Ts (.Call (.Attribute nm "pop" apos) [] [] cpos) (Γ.set j (some (.li ds.dropLast))) (.im d) := by
  refine (pe_bm0 PySem.F.plainAttrs_list PySem.F.slot_list_pop PySem.F.type_list_pop mt_pop (ee_al (C := C) (Γ := Γ) (Ts := Ts) j hn hj) hbase hline).wk fun σ H Q ⟨vs, h, q⟩ => ⟨vs, h, fun v H1 h1 => ?_⟩
  obtain ⟨a0, us0, e0, hl0, rd0⟩ := h1.srcS (.al hj)
  subst e0
  obtain ⟨a2, us2, hσ, hl2, rd2, put⟩ := h1.pop.lset hj
  have ea : a2 = a0 := by
    obtain ⟨F, ⟨g, _⟩, _⟩ := h1.top
    rw [hσ] at g
    injection g with g; injection g with g; injection g
  subst ea
  rw [hl0] at hl2
  cases hl2
  have hd' : ds[ds.length - 1]? = some d := by rw [← List.getLast?_eq_getElem?]; exact hd
  obtain ⟨u, hu, ru⟩ := rd0.get hd'
  have rdl : rDs C.K ds.dropLast us0.dropLast H1 := by
    rw [List.dropLast_eq_take, List.dropLast_eq_take, rd0.len]
    exact rd0.take _
  refine ⟨tyV_lst hl0, a2, us0, u, rfl, rfl, hl0, by rw [rd0.len]; exact hu, q _ _ ((put _ _ rdl).pushIm Ext.refl (ru.tf (TF.write ?_)))⟩
  rw [hl0]
  trivial
/-! #### tuple(..), len(..) of lists -/
theorem ee_tupOf {nm : Pos} (hm : X.mg "tuple" = none) (h : EE X C Γ Ts e Γ1 t) (s : Src Γ1 t ds) (hg : Gl X "tuple" := by rfl) (hK : X.K = C.K := by rfl) (he : starEach [e] X.env = (false, eval e X.env) :: starEach [] X.env := by rfl) (hpl : (backTo pos (starEach [] X.env)).any (·.1) = false := by rfl) : EE X C Γ Ts (.Call (.Name "tuple" nm) [e] [] pos) Γ1 (.im (.tup ds)) :=
  cb_wk (ts := [t]) (fun σ vs us H hl h Q q => by
    obtain ⟨u, rfl⟩ : ∃ u, us = [u] := List.length_eq_one_iff.mp hl
    obtain ⟨a, ws, e1, hw, rd⟩ := h.src s
    subst e1
    refine ⟨a, ws, rfl, .inl ⟨by rw [hK]; exact hw, fun p o hp ho => q _ _ (h.pop.pushIm (Ext.new hp) ?_)⟩⟩
    unfold rD
    exact ⟨p, ws, rfl, SqN.new upd_same ho, rd.tf (Ext.new hp).tf⟩) (pe_callTy call_tuple_ofN hg hm (by decide +kernel) (ea_cons h ea_nil he) (by decide) (by decide) he hpl)
theorem ee_lenL {nm : Pos} (hm : X.mg "len" = none) (h : EE X C Γ Ts e Γ1 t) (s : Src Γ1 t ds) (hg : Gl X "len" := by rfl) (hK : X.K = C.K := by rfl) (he : starEach [e] X.env = (false, eval e X.env) :: starEach [] X.env := by rfl) (hpl : (backTo pos (starEach [] X.env)).any (·.1) = false := by rfl) : EE X C Γ Ts (.Call (.Name "len" nm) [e] [] pos) Γ1 (.im (.int ds.length)) :=
  cb_wk (ts := [t]) (fun σ vs us H hl h Q q => by
    obtain ⟨u, rfl⟩ : ∃ u, us = [u] := List.length_eq_one_iff.mp hl
    obtain ⟨a, ws, e1, hw, rd⟩ := h.src s
    subst e1
    exact ⟨a, ws, rfl, .inl (by rw [hK]; exact hw), q _ _ (h.pop.pushIm Ext.refl (by unfold rD; rw [rd.len]))⟩) (pe_callB call_len_seq hg hm PySem.boot_len (ea_cons h ea_nil he) (by decide) (by decide) he hpl)
theorem ee_lenT {nm : Pos} (hm : X.mg "len" = none) (h : EE X C Γ Ts e Γ1 (.im (.tup ds))) (hg : Gl X "len" := by rfl) (hK : X.K = C.K := by rfl) (he : starEach [e] X.env = (false, eval e X.env) :: starEach [] X.env := by rfl) (hpl : (backTo pos (starEach [] X.env)).any (·.1) = false := by rfl) : EE X C Γ Ts (.Call (.Name "len" nm) [e] [] pos) Γ1 (.im (.int ds.length)) :=
  cb_wk (cls_1 fun x H hx Q q => by
    unfold rD at hx
    obtain ⟨a, us, e, hl, rd⟩ := hx
    subst e
    exact ⟨a, us, rfl, .inr (by rw [hK]; exact hl.t), q _ (by unfold rD; rw [rd.len])⟩) (pe_callB call_len_seq hg hm PySem.boot_len (ea_cons h ea_nil he) (by decide) (by decide) he hpl)
end
end RL

set_option maxHeartbeats 2000000
/-! RL8: what loops walk, comprehensions, a def's body -/
namespace RL
open PySem L2

section
variable {X : Cx} {C : Cn} {Γ Γ1 Γ2 Γ3 Γ' : Ctx} {Ts Hs : List T} {t t1 t2 t3 : T} {ts : List T} {e a b c tg iter elt : Expr} {es rest ifs : List Expr} {pos p p2 nm : Pos} {i j : Nat} {d d1 d2 d3 : D} {ds ds' : List D} {m : M} {b1 b2 k : Bool} {hx : V → T} {cond : Ctx → Prop} {body : List Stmt}
theorem it_wk (h : IT X C Hs tg iter Γ Γ1 hx cond ds) (w : wkL Γ2 Γ1) : IT X C Hs tg iter Γ Γ2 hx cond ds := h.wk fun σ H R ⟨hs, h0, q⟩ => ⟨hs, h0, fun v J H1 hA g => q v J H1 (hA.wk w) g⟩
theorem it_tup (h : EE X C Γ Hs iter Γ1 (.im (.tup ds))) (hK : X.K = C.K := by rfl) : IT X C Hs tg iter Γ Γ1 (fun v => .hid (.im (.tup ds)) v) (fun _ => True) ds := (pi_tup h).wk fun σ H R ⟨hs, h0, q⟩ => ⟨hs, h0, fun v H1 h1 => by
  have r := h1.topIm
  unfold rD at r
  obtain ⟨a, us, e, hq, rd⟩ := r
  subst e
  refine ⟨a, rfl, ⟨us, by rw [hK]; exact hq.t⟩, q (.ref a) _ H1 h1.hide ⟨fun H => ∃ xs, SqT X.K H a xs ∧ rDs C.K ds xs H, fun i H x H' => H' = H ∧ ∃ d, ds[i]? = some d ∧ rD C.K d x H, ⟨?_, ?_, ?_⟩, ?_, ?_⟩⟩
  · rintro i H hi ⟨xs, s, r⟩
    obtain ⟨u, hu, _⟩ := r.get (List.getElem?_eq_getElem hi)
    exact ⟨xs, u, s, hu⟩
  · rintro H ⟨xs, s, r⟩
    exact ⟨xs, s, Nat.le_of_eq r.len⟩
  · rintro i H x H' hi ⟨xs, s, r⟩ ⟨e1, y⟩
    exact ⟨e1, r.get2 (y xs s)⟩
  · intro Γ' σ' hs' H' _ hA
    obtain ⟨F, ⟨_, r⟩, _⟩ := hA.top
    unfold rM at r
    have r := r.1
    unfold rD at r
    obtain ⟨a', us', e', hq', rd'⟩ := r
    cases e'
    exact ⟨us', by rw [hK]; exact hq'.t, rd'⟩
  · rintro i H' x H'' hi _ ⟨e1, d, hd, rd⟩
    subst e1
    exact ⟨Ext.refl, d, hd, rd⟩⟩
theorem walk_lst {K : PySem.W.Frag} {a : Addr} : Walk (Itl K a) ds.length (fun H => ∃ xs, SqL K H a xs ∧ rDs K ds xs H) (fun i H x H' => H' = H ∧ ∃ d, ds[i]? = some d ∧ rD K d x H) := by
  refine ⟨?_, ?_, ?_⟩
  · rintro i H hi ⟨xs, s, r⟩
    obtain ⟨u, hu, _⟩ := r.get (List.getElem?_eq_getElem hi)
    exact ⟨xs, u, s, hu⟩
  · rintro H ⟨xs, s, r⟩
    exact ⟨xs, s, Nat.le_of_eq r.len⟩
  · rintro i H x H' hi ⟨xs, s, r⟩ ⟨e1, y⟩
    exact ⟨e1, r.get2 (y xs s)⟩
theorem it_lstH (h : EE X C Γ Hs iter Γ1 (.own (.li ds))) (hK : X.K = C.K := by rfl) : IT X C Hs tg iter Γ Γ1 (fun v => .hid (.li ds) v) (fun _ => True) ds := (pi_list h).wk fun σ H R ⟨hs, h0, q⟩ => ⟨hs, h0, fun v H1 h1 => by
  obtain ⟨a, us, e, hl, rd⟩ := h1.src .own
  subst e
  refine ⟨a, rfl, ⟨us, by rw [hK]; exact hl⟩, q (.ref a) _ H1 h1.hide ⟨_, _, (by rw [hK]; exact walk_lst), ?_, ?_⟩⟩
  · intro Γ' σ' hs' H' _ hA
    obtain ⟨F, ⟨_, r⟩, _⟩ := hA.top
    unfold rM at r
    obtain ⟨a', us', e', hl', rd', _⟩ := r
    cases e'
    exact ⟨us', SqL.of hl', rd'⟩
  · rintro i H' x H'' hi _ ⟨e1, d, hd, rd⟩
    subst e1
    exact ⟨Ext.refl, d, hd, rd⟩⟩
theorem it_lstV (j : Nat) (h : EE X C Γ Hs iter Γ1 (.al j)) (hj : Γ1[j]? = some (some (.li ds))) (hK : X.K = C.K := by rfl) : IT X C Hs tg iter Γ Γ1 (fun v => .hal j v) (fun Γ' => Γ'[j]? = some (some (.li ds))) ds := (pi_list h).wk fun σ H R ⟨hs, h0, q⟩ => ⟨hs, h0, fun v H1 h1 => by
  obtain ⟨a, us, e, hl, rd⟩ := h1.src (.al hj)
  subst e
  refine ⟨a, rfl, ⟨us, by rw [hK]; exact hl⟩, q (.ref a) _ H1 h1.hideAl ⟨_, _, (by rw [hK]; exact walk_lst), ?_, ?_⟩⟩
  · intro Γ' σ' hs' H' hc hA
    obtain ⟨F, ⟨_, hσ, _⟩, _⟩ := hA.top
    obtain ⟨w, F2, hw, r, _⟩ := hA.slot hc
    rw [hσ] at hw
    cases hw
    unfold rM at r
    obtain ⟨a', us', e', hl', rd', _⟩ := r
    cases e'
    exact ⟨us', SqL.of hl', rd'⟩
  · rintro i H' x H'' hi _ ⟨e1, d, hd, rd⟩
    subst e1
    exact ⟨Ext.refl, d, hd, rd⟩⟩
/-- the numbers from lo on below hi -/
def rng (lo hi : Int) : List Int := (List.range (hi - lo).toNat).map fun i => lo + (i : Nat)
theorem rng_length {lo hi : Int} : (rng lo hi).length = (hi - lo).toNat := by unfold rng; simp
theorem rng_get {lo hi : Int} {i : Nat} (h : i < (hi - lo).toNat) : ((rng lo hi).map D.int)[i]? = some (.int (lo + (i : Nat))) := by
  unfold rng
  simp [h]
theorem it_rngW {lo n : Int} (R : It → Hp → Prop) {σ : L2.St} {hs : List V} {H : Hp} (h : As C Γ1 Hs σ hs H)
    (q : ∀ v J H1, As C Γ1 (Hs ++ [(fun v => T.hid (.im .non) v) v]) σ (hs ++ [v]) H1 → (∃ G Y, Walk J ((rng lo n).map D.int).length G Y ∧ (∀ Γ' σ' hs' H', True → As C Γ' (Hs ++ [(fun v => T.hid (.im .non) v) v]) σ' (hs' ++ [v]) H' → G H') ∧
      ∀ i H' x H'', i < ((rng lo n).map D.int).length → G H' → Y i H' x H'' → Ext H' H'' ∧ ∃ d, ((rng lo n).map D.int)[i]? = some d ∧ rD C.K d x H'') → R J H1) : R (Itr lo (n - lo).toNat) H := by
  have h1 : As C Γ1 (Hs ++ [.im .non]) σ (hs ++ [.non]) H := h.pushIm Ext.refl (by unfold rD; rfl)
  refine q .non _ H h1.hide ⟨_, _, (by rw [List.length_map, rng_length]; exact walk_range), fun _ _ _ _ _ _ => trivial, ?_⟩
  rintro i H' x H'' hi _ ⟨e1, e2⟩
  subst e1
  rw [List.length_map, rng_length] at hi
  exact ⟨Ext.refl, _, rng_get hi, by unfold rD; exact e2⟩
theorem it_rng1 {n : Int} (hm : X.mg "range" = none) (h : EE X C Γ Hs a Γ1 (.im (.int n))) (h1 : -(2 ^ 62) ≤ n) (h2 : n < 2 ^ 62) (hg : Gl X "range" := by rfl) (hs : starEach [a] X.env = (false, eval a X.env) :: starEach [] X.env := by rfl) (hs2 : starEach [a] X.env = [(false, eval a X.env)] := by rfl) : IT X C Hs tg (.Call (.Name "range" p) [a] [] pos) Γ Γ1 (fun v => .hid (.im .non) v) (fun _ => True) ((rng 0 n).map D.int) :=
  (pi_range1 hg hm (ea_cons h ea_nil hs) hs2).wk fun σ H R ⟨hs, h0, q⟩ => ⟨hs, h0, fun us H1 hl hA => by
    obtain ⟨u, rfl⟩ : ∃ u, us = [u] := List.length_eq_one_iff.mp hl
    have e := hA.topIm
    unfold rD at e
    subst e
    refine ⟨n, rfl, h1, h2, ?_⟩
    have z := it_rngW (lo := 0) (n := n) R hA.pop q
    rw [Int.sub_zero] at z
    exact z⟩
theorem it_rng2 {lo n : Int} (hm : X.mg "range" = none) (h : EE X C Γ Hs a Γ1 (.im (.int lo))) (h' : EE X C Γ1 (Hs ++ [.im (.int lo)]) b Γ2 (.im (.int n))) (h1 : -(2 ^ 62) ≤ lo) (h2 : lo < 2 ^ 62) (h3 : -(2 ^ 62) ≤ n) (h4 : n < 2 ^ 62) (hg : Gl X "range" := by rfl) (hs : starEach [a, b] X.env = (false, eval a X.env) :: starEach [b] X.env := by rfl) (hsb : starEach [b] X.env = (false, eval b X.env) :: starEach [] X.env := by rfl) (hs1 : starEach [a, b] X.env = [(false, eval a X.env), (false, eval b X.env)] := by rfl) (hs2 : starEach [b] X.env = [(false, eval b X.env)] := by rfl) : IT X C Hs tg (.Call (.Name "range" p) [a, b] [] pos) Γ Γ2 (fun v => .hid (.im .non) v) (fun _ => True) ((rng lo n).map D.int) :=
  (pi_range2 hg hm (ea_cons h (ea_cons h' ea_nil hsb) hs) hs1 hs2).wk fun σ H R ⟨hs, h0, q⟩ => ⟨hs, h0, fun us H1 hl hA => by
    obtain ⟨u, w, rfl⟩ : ∃ u w, us = [u, w] := match us, hl with | [u, w], _ => ⟨u, w, rfl⟩
    have hA' : As C Γ2 ((Hs ++ [.im (.int lo)]) ++ [.im (.int n)]) σ ((hs ++ [u]) ++ [w]) H1 := by simpa using hA
    have e := hA'.topIm
    have e' := hA'.pop.topIm
    unfold rD at e e'
    subst e e'
    exact ⟨lo, n, rfl, ⟨h1, h2, h3, h4⟩, it_rngW (lo := lo) (n := n) R hA'.pop.pop q⟩⟩
/-! #### enumerate -/
def enumD (ds : List D) : List D := ds.mapIdx fun i d => D.tup [.int i, d]
theorem enumD_get {i : Nat} {d : D} (h : ds[i]? = some d) : (enumD ds)[i]? = some (.tup [.int i, d]) := by
  unfold enumD
  rw [List.getElem?_mapIdx, h] <;> rfl
theorem rD_pair {K : PySem.W.Frag} {H : Hp} {q : Addr} {x : V} {i : Nat} {d : D} {o : Obj} (ho : o.dict = none) (hq : H q = some (.frz o (.tup [.int (i : Nat), x]))) (r : rD K d x H) : rD K (.tup [.int i, d]) (.ref q) H := by
  unfold rD
  refine ⟨q, _, rfl, SqN.new hq ho, ?_⟩
  unfold rDs
  exact ⟨_, _, rfl, by unfold rD; rfl, .one r⟩
theorem it_enumT {elts : List Expr} {kk : Nat} {tpos : Pos} (hm : X.mg "enumerate" = none) (h : EE X C Γ Hs a Γ1 (.im (.tup ds))) (hg : Gl X "enumerate" := by rfl) (hK : X.K = C.K := by rfl) (hs : starEach [a] X.env = (false, eval a X.env) :: starEach [] X.env := by rfl) (hs2 : starEach [a] X.env = [(false, eval a X.env)] := by rfl) :
    IT X C Hs (.Tuple elts kk tpos) (.Call (.Name "enumerate" p) [a] [] pos) Γ Γ1 (fun v => .hid (.im (.tup ds)) v) (fun _ => True) (enumD ds) :=
  (pi_enumT hg hm (ea_cons h ea_nil hs) hs2).wk fun σ H R ⟨hs, h0, q⟩ => ⟨hs, h0, fun us H1 hl h1 => by
    obtain ⟨u, rfl⟩ : ∃ u, us = [u] := List.length_eq_one_iff.mp hl
    have r := h1.topIm
    unfold rD at r
    obtain ⟨a, us, e, hq, rd⟩ := r
    subst e
    refine ⟨a, us, rfl, by rw [hK]; exact hq.t, q (.ref a) _ H1 h1.hide ⟨fun H => ∃ xs, SqT X.K H a xs ∧ rDs C.K ds xs H, fun i H x H' => Ext H H' ∧ ∃ d, (enumD ds)[i]? = some d ∧ rD C.K d x H', ⟨?_, ?_, ?_⟩, ?_, ?_⟩⟩
    · rintro i H hi ⟨xs, s, r⟩
      unfold enumD at hi
      rw [List.length_mapIdx] at hi
      obtain ⟨u, hu, _⟩ := r.get (List.getElem?_eq_getElem hi)
      exact ⟨xs, u, s, hu⟩
    · rintro H ⟨xs, s, r⟩
      exact ⟨xs, s, by unfold enumD; rw [List.length_mapIdx]; exact Nat.le_of_eq r.len⟩
    · rintro i H x H' hi ⟨xs, s, r⟩ ⟨q1, x1, o1, e1, hn, ho1, e2, y⟩
      subst e1 e2
      obtain ⟨d, hd, rd⟩ := r.get2 (y xs s)
      exact ⟨Ext.new hn, _, enumD_get hd, rD_pair ho1 upd_same (rd.tf (Ext.new hn).tf)⟩
    · intro Γ' σ' hs' H' _ hA
      obtain ⟨F, ⟨_, r⟩, _⟩ := hA.top
      unfold rM at r
      have r := r.1
      unfold rD at r
      obtain ⟨a', us', e', hq', rd'⟩ := r
      cases e'
      exact ⟨us', by rw [hK]; exact hq'.t, rd'⟩
    · rintro i H' x H'' hi _ ⟨e1, d, hd, rd⟩
      exact ⟨e1, d, hd, rd⟩⟩
end

/-! ### comprehensions -/
theorem wipe_in {σ : L2.St} {i : Nat} : ∀ {vs : List Nat}, i ∈ vs → i < σ.length → (wipe σ vs)[i]? = some none
  | [], h, _ => nomatch h
  | v :: vs, h, hl => by
    unfold wipe
    by_cases e : v = i
    · subst e
      rw [List.getElem?_set_self (by rw [wipe_length]; exact hl)]
    · rw [List.getElem?_set_ne e]
      rcases List.mem_cons.mp h with z | z
      · exact absurd z.symm e
      · exact wipe_in z hl
theorem wipe_of {σ σ' : L2.St} {J : List Nat} (a : Agree J σ σ') : wipe σ' J = wipe σ J := by
  apply List.ext_getElem?
  intro i
  by_cases h : i ∈ J
  · by_cases hl : i < σ.length
    · rw [wipe_in h hl, wipe_in h (by rw [a.1]; exact hl)]
    · have h1 := a.1
      have h2 : (wipe σ' J).length = σ'.length := wipe_length _ _
      have h3 : (wipe σ J).length = σ.length := wipe_length _ _
      rw [List.getElem?_eq_none (l := wipe σ' J) (by omega), List.getElem?_eq_none (l := wipe σ J) (by omega)]
  · rw [wipe_out h, wipe_out h, a.2 i h]
theorem agree_wipe {σ : L2.St} {J : List Nat} : Agree J σ (wipe σ J) := ⟨wipe_length _ _, fun i h => wipe_out h⟩
theorem Agree.symm {σ σ' : L2.St} {J : List Nat} (a : Agree J σ σ') : Agree J σ' σ := ⟨a.1.symm, fun i h => (a.2 i h).symm⟩
theorem wipe_wipe {σ : L2.St} {J : List Nat} : wipe (wipe σ J) J = wipe σ J := wipe_of agree_wipe
/-- nothing is told of the slots in J -/
def Bare (J : List Nat) (Γ : Ctx) : Prop := ∀ i ∈ J, ∀ m, Γ[i]? ≠ some (some m)
def FreeJ (J : List Nat) (Ts : List T) : Prop := ∀ i ∈ J, Free i Ts
theorem Free.append {i : Nat} : ∀ {a b : List T}, Free i a → Free i b → Free i (a ++ b)
  | [], _, _, h => h
  | _ :: _, _, ⟨h1, h2⟩, h => ⟨h1, h2.append h⟩
theorem lcM_cons {S α β : Type} {f : S → α → Option (S × Option β)} {s s1 : S} {x : α} {xs : List α} {ys : List β} (h : lcM f s (x :: xs) = some (s1, ys)) : ∃ s' od zs, f s x = some (s', od) ∧ lcM f s' xs = some (s1, zs) ∧ ys = (match od with | some d => d :: zs | none => zs) := by
  unfold lcM at h
  cases e : f s x with
  | none => rw [e] at h; cases h
  | some p =>
    obtain ⟨s', od⟩ := p
    rw [e] at h
    cases e2 : lcM f s' xs with
    | none => simp [e2] at h
    | some q =>
      obtain ⟨s2, zs⟩ := q
      simp only [Option.bind_some, e2, Option.some.injEq, Prod.mk.injEq] at h
      exact ⟨s', od, zs, rfl, by rw [← h.1]; exact e2, h.2.symm⟩
section
variable {X : Cx} {C : Cn} {Γ Γ1 Γ2 Γ3 Γ' : Ctx} {Ts Hs : List T} {t t1 t2 t3 : T} {ts : List T} {e a b c tg iter elt : Expr} {es rest ifs : List Expr} {pos p p2 nm : Pos} {i j : Nat} {d d1 d2 d3 : D} {ds ds' : List D} {m : M} {b1 b2 k : Bool} {hx : V → T} {cond : Ctx → Prop} {body : List Stmt}
  {S α β : Type} {f : S → α → Option (S × Option β)} {enc : α → D} {eb : β → D} {xs : List α} {s0 s1 : S} {ys : List β} {Γs : S → Ctx} {Γt Γu : S → α → Ctx} {tb : S → α → Bool} {own : List (Str × Nat)} {scope : Scope}
/-- what a comprehension's parts do -/
structure Lc (X : Cx) (C : Cn) (Ts : List T) (Γ : Ctx) (tg iter elt : Expr) (ifs : List Expr) (scope : Scope) (own : List (Str × Nat)) (f : S → α → Option (S × Option β)) (enc : α → D) (eb : β → D) (xs : List α) (s0 : S) (Γs : S → Ctx) (Γt Γu : S → α → Ctx) (tb : S → α → Bool) (hx : V → T) (cond : Ctx → Prop) : Prop where
  fx : Fix hx
  it : IT X C Ts tg iter Γ (Γs s0) hx cond (xs.map enc)
  cd : ∀ s, cond (Γs s)
  gt : ∀ (s : Shared) (H : Hp) (Ca : Addr) (cl : List (Str × Addr)) (fp : List Addr) (v q : V) (acc : List D) (st : S) (x : α), GT (X.blk s H scope (compEnvC scope cl Ca X.env) fp) C (Ts ++ [hx v] ++ [.hid (.li acc) q]) (Γs st) tg (enc x) (Γt st x) (own.map (·.2))
  tt : ∀ (s : Shared) (H : Hp) (Ca : Addr) (cl : List (Str × Addr)) (fp : List Addr) (v q : V) (acc : List D) (st : S) (x : α), (∃ r, f st x = some r) → PTs (X.blk s H scope (compEnvC scope cl Ca X.env) fp) ifs (tr C (Γt st x) (Ts ++ [hx v] ++ [.hid (.li acc) q]) (Γu st x) (tb st x))
  el : ∀ (s : Shared) (H : Hp) (Ca : Addr) (cl : List (Str × Addr)) (fp : List Addr) (v q : V) (acc : List D) (st : S) (x : α) (st' : S) (y : β), tb st x = true → f st x = some (st', some y) → EE (X.blk s H scope (compEnvC scope cl Ca X.env) fp) C (Γu st x) (Ts ++ [hx v] ++ [.hid (.li acc) q]) elt (Γs st') (.im (eb y))
  ft : ∀ st x r, tb st x = true → f st x = some r → ∃ d, r.2 = some d
  ff : ∀ st x r, tb st x = false → f st x = some r → r.2 = none ∧ wkL (Γs r.1) (Γu st x)
  br : ∀ s, Bare (own.map (·.2)) (Γs s)
  fr : FreeJ (own.map (·.2)) Ts
  fh : ∀ v, FreeJ (own.map (·.2)) [hx v]
  pn : ∀ p ∈ C.pin, p.1 ∉ own.map (·.2)
  ln : xs.length ≤ sizeLine
def lcG (C : Cn) (Ts : List T) (own : List (Str × Nat)) (enc : α → D) (Γs : S → Ctx) (Γt : S → α → Ctx) (hx : V → T) : TG := fun v σ H Q => ∃ q : V × V × List D × S × α, True ∧ gr C (Γs q.2.2.2.1) (Ts ++ [hx q.1] ++ [.hid (.li q.2.2.1) q.2.1]) (enc q.2.2.2.2) (Γt q.2.2.2.1 q.2.2.2.2) (own.map (·.2)) v σ H Q
def lcT (C : Cn) (Ts : List T) (f : S → α → Option (S × Option β)) (Γt Γu : S → α → Ctx) (tb : S → α → Bool) (hx : V → T) : TT := fun σ H Q => ∃ q : V × V × List D × S × α, (∃ r, f q.2.2.2.1 q.2.2.2.2 = some r) ∧ tr C (Γt q.2.2.2.1 q.2.2.2.2) (Ts ++ [hx q.1] ++ [.hid (.li q.2.2.1) q.2.1]) (Γu q.2.2.2.1 q.2.2.2.2) (tb q.2.2.2.1 q.2.2.2.2) σ H Q
def lcE (C : Cn) (Ts : List T) (f : S → α → Option (S × Option β)) (eb : β → D) (Γs : S → Ctx) (Γu : S → α → Ctx) (tb : S → α → Bool) (hx : V → T) : TE := fun σ H Q => ∃ q : V × V × List D × S × α × S × β, (tb q.2.2.2.1 q.2.2.2.2.1 = true ∧ f q.2.2.2.1 q.2.2.2.2.1 = some (q.2.2.2.2.2.1, some q.2.2.2.2.2.2)) ∧
  er C (Γu q.2.2.2.1 q.2.2.2.2.1) (Ts ++ [hx q.1] ++ [.hid (.li q.2.2.1) q.2.1]) (Γs q.2.2.2.2.2.1) (.im (eb q.2.2.2.2.2.2)) σ H Q
theorem Lc.sat (L : Lc X C Ts Γ tg iter elt ifs scope own f enc eb xs s0 Γs Γt Γu tb hx cond) (h : lcM f s0 xs = some (s1, ys)) {σ : L2.St} {vs : List V} {H : Hp} {Q : VK} (h0 : As C Γ Ts σ vs H) (q : ∀ z H', As C (Γs s1) (Ts ++ [.own (.li (ys.map eb))]) σ (vs ++ [z]) H' → Q z H') :
    tLc (ir C Γ Ts (Γs s0) hx cond (xs.map enc)) (lcG C Ts own enc Γs Γt hx) (lcT C Ts f Γt Γu tb hx) (lcE C Ts f eb Γs Γu tb hx) (own.map (·.2)) σ H Q := by
  refine ⟨vs, h0, fun v Ji H1 hA ⟨G, Y, w, g1, g2⟩ Dd hD => ?_⟩
  rw [List.length_map] at w g2
  have fr2 : FreeJ (own.map (·.2)) (Ts ++ [hx v]) := fun i hi => (L.fr i hi).append (L.fh v i hi)
  have fr3 : ∀ acc, FreeJ (own.map (·.2)) (Ts ++ [hx v] ++ [.hid (.li acc) (.ref Dd)]) := fun acc i hi => (fr2 i hi).append ⟨trivial, trivial⟩
  have hA1 : As C (Γs s0) (Ts ++ [hx v]) (wipe σ (own.map (·.2))) (vs ++ [v]) H1 := hA.sig (wipe_length _ _) (fun i hi => wipe_out hi) (L.br s0) fr2 L.pn
  have hA2 : As C (Γs s0) (Ts ++ [hx v] ++ [.hid (.li []) (.ref Dd)]) (wipe σ (own.map (·.2))) (vs ++ [v] ++ [.ref Dd]) (upd H1 Dd (.lst [])) := by
    refine hA1.push (Ext.new hD) (t := .hid (.li []) (.ref Dd)) (F := fun a => a = Dd) ⟨rfl, ?_⟩ (fun a e => by rw [e]; exact hD) fun a e => by rw [e, upd_same]; trivial
    unfold rM
    exact ⟨Dd, [], rfl, upd_same, by unfold rDs; rfl, fun b => Iff.rfl⟩
  refine lc_it (g := lcG C Ts own enc Γs Γt hx) (tt := lcT C Ts f Γt Γu tb hx) (te := lcE C Ts f eb Γs Γu tb hx) w (fun i H => ∃ (st : S) (acc zs : List β), As C (Γs st) (Ts ++ [hx v] ++ [.hid (.li (acc.map eb)) (.ref Dd)]) (wipe σ (own.map (·.2))) (vs ++ [v] ++ [.ref Dd]) H ∧ lcM f st (xs.drop i) = some (s1, zs) ∧ ys = acc ++ zs ∧ acc.length ≤ i)
    ⟨s0, [], ys, hA2, by simpa using h, rfl, Nat.le_refl _⟩ (fun i H hi ⟨st, acc, zs, hB, _⟩ => g1 _ _ _ H (L.cd st) hB.pop) (fun i x H H' hi ⟨st, acc, zs, hB, hm, hy, hlen⟩ y => ?_) (fun H ⟨st, acc, zs, hB, hm, hy, _⟩ => ?_)
  · obtain ⟨ex, d, hd, rd⟩ := g2 i H x H' hi (g1 _ _ _ H (L.cd st) hB.pop) y
    rw [List.getElem?_map, List.getElem?_eq_getElem hi] at hd
    cases hd
    rw [List.drop_eq_getElem_cons hi] at hm
    obtain ⟨st', od, zs', hf, hm', hz⟩ := lcM_cons hm
    refine ⟨(v, .ref Dd, acc.map eb, st, xs[i]), trivial, _, hB.ext ex, rd, fun σ2 ag h2 => ?_⟩
    refine ⟨by rw [wipe_of ag, wipe_wipe], (v, .ref Dd, acc.map eb, st, xs[i]), ⟨_, hf⟩, _, h2, fun H3 h3 => ?_⟩
    have ag2 : Agree (own.map (·.2)) (wipe σ (own.map (·.2))) σ2 := ag
    cases hb : tb st xs[i] with
    | true =>
      show (if true = true then _ else _)
      rw [if_pos rfl]
      obtain ⟨d, hod⟩ := L.ft st xs[i] _ hb hf
      cases hod
      refine ⟨(v, .ref Dd, acc.map eb, st, xs[i], st', d), ⟨hb, hf⟩, _, h3, fun yv H4 h4 => ?_⟩
      have rdy := h4.topIm
      have h5 := h4.pop
      obtain ⟨F, ⟨e5, r5⟩, up⟩ := h5.top
      unfold rM at r5
      obtain ⟨a5, us5, ea, hl5, rd5, hF5⟩ := r5
      cases ea
      refine ⟨us5, hl5, by rw [rd5.len, List.length_map]; exact Nat.lt_of_le_of_lt hlen (Nat.lt_of_lt_of_le hi L.ln), st', acc ++ [d], zs', ?_, hm', by rw [hy, hz]; simp, by simp; omega⟩
      have mu : Mut (H4 Dd) := by rw [hl5]; trivial
      have h6 : As C (Γs st') (Ts ++ [hx v] ++ [.hid (.li ((acc ++ [d]).map eb)) (.ref Dd)]) σ2 (vs ++ [v] ++ [.ref Dd]) (upd H4 Dd (.lst (us5 ++ [yv]))) := by
        refine up (.hid (.li ((acc ++ [d]).map eb)) (.ref Dd)) (.ref Dd) _ F (TF.write mu) (fun b nb _ => upd_ne fun z => nb ((hF5 b).2 z)) ⟨rfl, ?_⟩ (fun b hb => .inl hb) fun b hb => by rw [(hF5 b).1 hb, upd_same]; trivial
        unfold rM
        rw [List.map_append]
        exact ⟨Dd, _, rfl, upd_same, (rd5.app (.one rdy)).tf (TF.write mu), hF5⟩
      exact h6.sig (by rw [ag2.1]) (fun i hi => (ag2.2 i hi).symm) (L.br st') (fr3 _) L.pn
    | false =>
      show (if false = true then _ else _)
      rw [if_neg Bool.false_ne_true]
      obtain ⟨ho, hw⟩ := L.ff st xs[i] _ hb hf
      cases ho
      have h5 := h3.wk hw
      exact ⟨st', acc, zs', h5.sig (by rw [ag2.1]) (fun i hi => (ag2.2 i hi).symm) (L.br st') (fr3 _) L.pn, hm', by rw [hy, hz], by omega⟩
  · rw [List.drop_length] at hm
    unfold lcM at hm
    cases hm
    rw [List.append_nil] at hy
    subst hy
    have h7 : As C (Γs s1) (Ts ++ [.own (.li (ys.map eb))]) (wipe σ (own.map (·.2))) (vs ++ [.ref Dd]) H := by
      obtain ⟨F, ⟨_, r⟩, up⟩ := hB.top
      have z : As C (Γs s1) (Ts ++ [hx v] ++ [.own (.li (ys.map eb))]) (wipe σ (own.map (·.2))) (vs ++ [v] ++ [.ref Dd]) H := up (.own (.li (ys.map eb))) (.ref Dd) H F TF.refl (fun _ _ _ => rfl) r (fun a ha => .inl ha) fun a ha => rM.mut r ha
      exact z.mid
    exact q (.ref Dd) H (h7.sig (wipe_length _ _).symm (fun i hi => (wipe_out hi).symm) (L.br s1) (fun i hi => (L.fr i hi).append ⟨trivial, trivial⟩) L.pn)
theorem ee_lc (hcm : X.calm = true) (hN : X.N.Nodup) (ok : BlkOk X.N X.env.scope scope own) (L : Lc X C Ts Γ tg iter elt ifs scope own f enc eb xs s0 Γs Γt Γu tb hx cond) (h : lcM f s0 xs = some (s1, ys)) (hs : ∀ x, foldedSetIterable iter X.env x = pure x := by intro _; rfl) :
    EE X C Γ Ts (.ListComp elt [⟨tg, iter, ifs, 0⟩] scope pos) (Γs s1) (.own (.li (ys.map eb))) := by
  have r := pe_lc (pos := pos) hcm hN L.it ok (g := lcG C Ts own enc Γs Γt hx) (tt := lcT C Ts f Γt Γu tb hx) (te := lcE C Ts f eb Γs Γu tb hx)
    (fun s H Ca cl fp => PG.ex (ι := V × V × List D × S × α) (P := fun _ => True) fun q _ => L.gt s H Ca cl fp q.1 q.2.1 q.2.2.1 q.2.2.2.1 q.2.2.2.2)
    (fun s H Ca cl fp => PTs.ex (ι := V × V × List D × S × α) (P := fun q => ∃ r, f q.2.2.2.1 q.2.2.2.2 = some r) fun q hq => L.tt s H Ca cl fp q.1 q.2.1 q.2.2.1 q.2.2.2.1 q.2.2.2.2 hq)
    (fun s H Ca cl fp => PE.ex (ι := V × V × List D × S × α × S × β) (P := fun q => tb q.2.2.2.1 q.2.2.2.2.1 = true ∧ f q.2.2.2.1 q.2.2.2.2.1 = some (q.2.2.2.2.2.1, some q.2.2.2.2.2.2)) fun q hq => L.el s H Ca cl fp q.1 q.2.1 q.2.2.1 q.2.2.2.1 q.2.2.2.2.1 q.2.2.2.2.2.1 q.2.2.2.2.2.2 hq.1 hq.2) hs
  refine r.wk fun σ H Q ⟨vs, h0, q⟩ => L.sat h h0 q
end
end RL

set_option maxHeartbeats 2000000
/-! RL9: more statements, more of lists, a def's body -/
namespace RL
open PySem L2

section
variable {X : Cx} {C : Cn} {Γ Γ1 Γ2 Γ3 Γ' : Ctx} {Ts Hs : List T} {t t1 t2 t3 : T} {ts : List T} {e a b c tg iter elt : Expr} {es rest ifs : List Expr} {pos p p2 nm px py pz pt spos : Pos} {i j l : Nat} {d d1 d2 d3 : D} {ds ds' : List D} {m m1 m2 m3 : M} {b1 b2 k : Bool} {hx : V → T} {cond : Ctx → Prop} {body : List Stmt}
  {S α β : Type} {f : S → α → Option (S × Option β)} {enc : α → D} {eb : β → D} {xs : List α} {s0 s1 : S} {ys : List β} {Γs : S → Ctx} {Γt Γu : S → α → Ctx} {tb : S → α → Bool} {own : List (Str × Nat)} {scope : Scope}
theorem free1 : Free i [.own m] := ⟨trivial, trivial⟩
/-- y = [..] -/
theorem s_setLc (i : Nat) {y : Str} (hcm : X.calm = true) (hN : X.N.Nodup) (hy : X.N[i]? = some y) (hyl : X.env.scope.names.lookup y = some .local) (hp : ∀ p ∈ C.pin, p.1 ≠ i) (hf : Free i Hs) (ok : BlkOk X.N X.env.scope scope own)
    (L : Lc X C Hs Γ tg iter elt ifs scope own f enc eb xs s0 Γs Γt Γu tb hx cond) (h : lcM f s0 xs = some (s1, ys)) (hsw : swapsWith (.ListComp elt [⟨tg, iter, ifs, 0⟩] scope pos) (some (.Name y py)) spos.line X.env = pure true) (hs : ∀ x, foldedSetIterable iter X.env x = pure x := by intro _; rfl) :
    S1 X C Hs Γ (.Assign [.Name y py] (.ListComp elt [⟨tg, iter, ifs, 0⟩] scope pos) spos) (.nx ((Γs s1).set i (some (.li (ys.map eb))))) := by
  have r := ps_setLc (pos := pos) (spos := spos) hcm hN hy hyl hsw L.it ok (g := lcG C Hs own enc Γs Γt hx) (tt := lcT C Hs f Γt Γu tb hx) (te := lcE C Hs f eb Γs Γu tb hx)
    (fun s H Ca cl fp => PG.ex (ι := V × V × List D × S × α) (P := fun _ => True) fun q _ => L.gt s H Ca cl fp q.1 q.2.1 q.2.2.1 q.2.2.2.1 q.2.2.2.2)
    (fun s H Ca cl fp => PTs.ex (ι := V × V × List D × S × α) (P := fun q => ∃ r, f q.2.2.2.1 q.2.2.2.2 = some r) fun q hq => L.tt s H Ca cl fp q.1 q.2.1 q.2.2.1 q.2.2.2.1 q.2.2.2.2 hq)
    (fun s H Ca cl fp => PE.ex (ι := V × V × List D × S × α × S × β) (P := fun q => tb q.2.2.2.1 q.2.2.2.2.1 = true ∧ f q.2.2.2.1 q.2.2.2.2.1 = some (q.2.2.2.2.2.1, some q.2.2.2.2.2.2)) fun q hq => L.el s H Ca cl fp q.1 q.2.1 q.2.2.1 q.2.2.2.1 q.2.2.2.2.1 q.2.2.2.2.2.1 q.2.2.2.2.2.2 hq.1 hq.2) hs
  exact r.wk fun σ H D ⟨⟨vs, h0⟩, q⟩ => L.sat h h0 fun z H' h' => q _ vs H' (h'.set hp hf)
/-- a, b = e1, e2 -/
theorem s_par2 (i j : Nat) {x y : Str} {kt k2 pt2} (hcm : X.calm = true) (hN : X.N.Nodup) (hi : X.N[i]? = some x) (hj : X.N[j]? = some y) (hij : i ≠ j) (hxl : X.env.scope.names.lookup x = some .local) (hyl : X.env.scope.names.lookup y = some .local)
    (hpi : ∀ p ∈ C.pin, p.1 ≠ i) (hpj : ∀ p ∈ C.pin, p.1 ≠ j) (hfi : Free i Hs) (hfj : Free j Hs) (ha : EA X C Γ Hs [a, b] Γ1 [.own m1, .own m2])
    (hw : swappedStores [.Tuple [.Name x px, .Name y py] kt pt] (.Tuple [a, b] k2 pt2) X.env = pure (some [x, y]) := by rfl)
    (hs : swapsWithSole [.Tuple [.Name x px, .Name y py] kt pt] (.Tuple [a, b] k2 pt2) pos.line X.env = pure false := by rfl) :
    S1 X C Hs Γ (.Assign [.Tuple [.Name x px, .Name y py] kt pt] (.Tuple [a, b] k2 pt2) pos) (.nx ((Γ1.set j (some m2)).set i (some m1))) :=
  (ps_par (pos := pos) hcm hN hi hj hij hxl hyl ha hw hs).wk fun σ H D ⟨⟨hs, h⟩, q⟩ => ⟨hs, h, fun us H1 hl h1 => by
    obtain ⟨u, w, rfl⟩ : ∃ u w, us = [u, w] := match us, hl with | [u, w], _ => ⟨u, w, rfl⟩
    refine ⟨u, w, rfl, ?_⟩
    have h2 : As C Γ1 ((Hs ++ [.own m1]) ++ [.own m2]) σ ((hs ++ [u]) ++ [w]) H1 := by simpa using h1
    have h3 := h2.set hpj (hfj.append free1)
    have h4 := h3.set hpi hfi
    have e : (σ.set j (some w)).set i (some u) = (σ.set i (some u)).set j (some w) := List.set_comm _ _ (Ne.symm hij)
    rw [e] at h4
    exact q _ hs H1 h4⟩
/-! #### loops without a break -/
theorem s_for {f : S → α → Option S} {J : List Nat} (hcm : X.calm = true) (fx : Fix hx) (it : IT X C Hs tg iter Γ (Γs s0) hx cond (xs.map enc)) (hcond : ∀ s, cond (Γs s)) (gt : ∀ v s x, GT X C (Hs ++ [hx v]) (Γs s) tg (enc x) (Γt s x) J)
    (hb : ∀ v s x s', f s x = some s' → SS X C (Hs ++ [hx v]) (Γt s x) body (.nx (Γs s'))) (h : forS f s0 xs = some s1) (hf : ∀ x, foldedSetIterable iter X.env x = pure x := by intro _; rfl) (hp : PassesOwn (model X.prog X.w) X.A X.env X.xe := by exact PassesOwn.never) :
    S1 X C Hs Γ (.For tg iter body [] pos) (.nx (Γs s1)) :=
  s_forO (R := Unit) (ρ := fun _ => ([], .im .non)) (out := .nx s1) hcm fx it hcond gt (fun v s x out hf => by
    cases e : f s x with
    | none => rw [e] at hf; cases hf
    | some s' => rw [e] at hf; cases hf; exact hb v s x s' e) (forS_O h) hf hp
/-! #### more of lists -/
/-- two lists that are read -/
theorem ee_cat (h1 : EE X C Γ Ts a Γ1 t1) (h2 : EE X C Γ1 (Ts ++ [t1]) b Γ2 t2) (s1 : SrcS Γ2 t1 ds) (s2 : SrcS Γ2 t2 ds') (hl : ds.length + ds'.length ≤ sizeLine) : EE X C Γ Ts (.BinOp a .Add b pos) Γ2 (.own (.li (ds ++ ds'))) := ee_op op_cat h1 h2 fun σ vs x y H hA Q q => by
  obtain ⟨p, us, rfl, hp, r1⟩ := hA.pop.srcS s1
  obtain ⟨q', ws, rfl, hq, r2⟩ := hA.srcS s2
  refine ⟨p, q', us, ws, rfl, rfl, hp, hq, by rw [r1.len, r2.len]; exact hl, fun n hn => q _ _ (hA.pop.pop.push (Ext.new hn) (t := .own (.li (ds ++ ds'))) (F := fun x => x = n) ?_ (fun x e => by rw [e]; exact hn) fun x e => by rw [e, upd_same]; trivial)⟩
  show rM _ _ _ _ _
  unfold rM
  exact ⟨n, _, rfl, upd_same, (r1.app r2).tf (Ext.new hn).tf, fun _ => Iff.rfl⟩
theorem ee_catT (h1 : EE X C Γ Ts a Γ1 (.im (.tup ds))) (h2 : EE X C Γ1 (Ts ++ [.im (.tup ds)]) b Γ2 (.im (.tup ds'))) (hl : ds.length + ds'.length ≤ sizeLine) (hK : X.K = C.K := by rfl) : EE X C Γ Ts (.BinOp a .Add b pos) Γ2 (.im (.tup (ds ++ ds'))) := ee_op op_catN h1 h2 (r2s_imN fun x y H rx ry Q q => by
  unfold rD at rx ry
  obtain ⟨p, us, rfl, hp, r1⟩ := rx
  obtain ⟨q', ws, rfl, hq, r2⟩ := ry
  have l1 := r1.len
  have l2 := r2.len
  refine ⟨p, q', us, ws, rfl, rfl, by rw [hK]; exact hp.t, by rw [hK]; exact hq.t, by omega, fun e => q _ H Ext.refl ?_, fun _ e => q _ H Ext.refl ?_, fun _ _ n o hn ho => q _ _ (Ext.new hn) ?_⟩
  · subst e
    have : ds = [] := List.length_eq_zero_iff.mp l1.symm
    subst this
    unfold rD
    exact ⟨_, _, rfl, hq, r2⟩
  · subst e
    have : ds' = [] := List.length_eq_zero_iff.mp l2.symm
    subst this
    unfold rD
    exact ⟨_, _, rfl, hp, by rw [List.append_nil]; exact r1⟩
  · unfold rD
    exact ⟨n, _, rfl, SqN.new upd_same ho, (r1.app r2).tf (Ext.new hn).tf⟩)
theorem ee_extend {nm : Expr} {apos cpos : Pos} (j : Nat) (hn : PE X nm (tVar j)) (hj : Γ[j]? = some (some (.li ds'))) (h1 : EE X C Γ (Ts ++ [.al j]) e Γ1 t) (hj1 : Γ1[j]? = some (some (.li ds))) {es' : List D} (s : SrcS Γ1 t es') (hl : ds.length + es'.length ≤ sizeLine)
    (hbase : attributeBase nm "extend" X.env (eval nm X.env) = eval nm X.env := by rfl)
    (hfew : ((backTo cpos (starEach [e] X.env)).all (fun x => !x.1) && (backToKw cpos (keywordEach [] X.env)).all (fun x => x.1.isSome)
      && decide ([e].length + ([] : List Keyword).length + (if ([] : List Keyword).isEmpty then 0 else 1) < 30)) = true := by rfl)
    (hline : (apos.endLine == cpos.line) = true := by rfl) (hs : starEach [e] X.env = (false, eval e X.env) :: starEach [] X.env := by rfl) (hplain : (backTo cpos (starEach [] X.env)).any (·.1) = false := by rfl) :
    EE X C Γ Ts (.Call (.Attribute nm "extend" apos) [e] [] cpos) (Γ1.set j (some (.li (ds ++ es')))) (.im .non) := by
  refine (pe_bm PySem.F.plainAttrs_list PySem.F.slot_list_extend PySem.F.type_list_extend mt_extend (ee_al (C := C) (Γ := Γ) (Ts := Ts) j hn hj) (ea_cons h1 ea_nil hs) hbase hfew hline hs hplain).wk fun σ H Q ⟨vs, h, q⟩ => ⟨vs, h, fun v H1 h1 => ?_⟩
  obtain ⟨a0, us0, e0, hl0, _⟩ := h1.srcS (.al hj)
  subst e0
  refine ⟨tyV_lst hl0, vs ++ [.ref a0], h1, fun us H2 hlen h2 => ?_⟩
  obtain ⟨u, rfl⟩ : ∃ u, us = [u] := List.length_eq_one_iff.mp hlen
  obtain ⟨a3, us3, e3, hl3, rd3⟩ := h2.srcS s
  subst e3
  have h3 := h2.pop
  obtain ⟨a1, us1, e1, hl1, rd1⟩ := h3.srcS (.al hj1)
  cases e1
  obtain ⟨a2, us2, hσ, hl2, rd2, put⟩ := h3.pop.lset hj1
  have ea : a2 = a0 := by
    obtain ⟨F, ⟨g, _⟩, _⟩ := h3.top
    rw [hσ] at g
    injection g with g; injection g with g; injection g
  subst ea
  rw [hl1] at hl2
  cases hl2
  exact ⟨a2, a3, us1, us3, rfl, rfl, hl1, hl3, by rw [rd1.len, rd3.len]; exact hl, q _ _ ((put _ _ (rd1.app rd3)).pushIm Ext.refl (by unfold rD; rfl))⟩
/-! #### x in a list or tuple of data without depth -/
end

/-! ### a def's body -/
theorem putAll_start : ∀ (ms : List M) (a : Ctx) (n : Nat), ms.length ≤ n → putAll (a ++ List.replicate n none) ((List.range' a.length ms.length).map some) ms = a ++ (ms.map some ++ List.replicate (n - ms.length) none)
  | [], a, n, h => by simp [putAll]
  | m :: ms, a, 0, h => by simp at h
  | m :: ms, a, n + 1, h => by
    have e1 : (List.range' a.length (m :: ms).length).map some = some a.length :: (List.range' (a.length + 1) ms.length).map some := by
      rw [List.length_cons, List.range'_succ, List.map_cons]
    rw [e1]
    unfold putAll
    have e2 : (a ++ List.replicate (n + 1) none).set a.length (some m) = (a ++ [some m]) ++ List.replicate n none := by
      rw [List.set_append_right _ _ (Nat.le_refl _), Nat.sub_self, List.replicate_succ, List.set_cons_zero]
      simp
    rw [e2]
    have ih := putAll_start ms (a ++ [some m]) n (by simp at h; omega)
    rw [List.length_append, List.length_singleton] at ih
    rw [ih]
    simp
theorem rMs.len {K : PySem.W.Frag} {H : Hp} : ∀ {ms : List M} {us : List V} {F : FS}, rMs K ms us H F → us.length = ms.length
  | [], us, F, h => by unfold rMs at h; rw [h.1] <;> rfl
  | m :: ms, us, F, h => by
    unfold rMs at h
    obtain ⟨w, ws, _, _, e, _, s, _⟩ := h
    rw [e, List.length_cons, List.length_cons, s.len]
theorem takeAll {C : Cn} {σ : L2.St} {H : Hp} : ∀ {ios : List Nat} {ms : List M} {Γ : Ctx} {Ts : List T} {vs : List V}, As C Γ Ts σ vs H → ios.Nodup → ms.length = ios.length → (∀ (k i : Nat) (m : M), ios[k]? = some i → ms[k]? = some m → Γ[i]? = some (some m)) →
    ∃ Γ' ts us, As C Γ' (Ts ++ ts) σ (vs ++ us) H ∧ ts.map T.mo = ms.map some ∧ us.length = ts.length ∧ ∀ (k i : Nat), ios[k]? = some i → ∃ u, us[k]? = some u ∧ σ[i]? = some (some u)
  | [], ms, Γ, Ts, vs, h, _, hl, _ => by
    have : ms = [] := List.length_eq_zero_iff.mp hl
    subst this
    exact ⟨Γ, [], [], by simpa using h, rfl, rfl, fun k i e => by simp at e⟩
  | i :: ios, [], Γ, Ts, vs, h, _, hl, _ => by simp at hl
  | i :: ios, m :: ms, Γ, Ts, vs, h, hn, hl, g => by
    obtain ⟨v, hv, h1⟩ := h.take (g 0 i m rfl rfl)
    rw [List.nodup_cons] at hn
    obtain ⟨Γ', ts, us, h2, e1, e2, e3⟩ := takeAll (ios := ios) (ms := ms) h1 hn.2 (by simpa using hl) fun k i' m' a b => by
      have ne : i ≠ i' := fun z => hn.1 (by rw [z]; exact List.mem_of_getElem? a)
      rw [List.getElem?_set_ne ne]
      exact g (k + 1) i' m' (by simpa using a) (by simpa using b)
    refine ⟨Γ', .tk i m :: ts, v :: us, by simpa using h2, by simp [e1, T.mo], by simp [e2], fun k i' a => ?_⟩
    cases k with
    | zero => simp at a; subst a; exact ⟨v, rfl, hv⟩
    | succ k => exact e3 k i' (by simpa using a)
/-- what a def's body has to show: called with ms it ends with r, its changed parameters bearing ms' -/
def Ends1 (X : Cx) (C : Cn) (n : Nat) (N : List Str) (ios : List Nat) (body : List Stmt) (ms : List M) (r : M) (ms' : List M) : Prop :=
  ∃ Γr, SS X C [] (ms.map some ++ List.replicate (N.length - n) none) body (.rt Γr r) ∧ ∀ (k i : Nat) (m : M), ios[k]? = some i → ms'[k]? = some m → Γr[i]? = some (some m)
theorem fn_body {P : Program} {w : World} {K : PySem.W.Frag} {mg : Str → Option Value} {base : Heap} {k n : Nat} {f : Addr} {fd : FuncData} {x qual : Str} {params : Arguments} {body : List Stmt} {sc : Scope} {N ps : List Str} {ios : List Nat} {rel : List M → M → List M → Prop}
    (F : FunD K x qual params body sc [] [] f fd) (S : FnScope N ps sc) (hn : n = ps.length) (hN : n ≤ N.length) (hio : ios.Nodup) (hin : ∀ i ∈ ios, i < n) (hrel : ∀ ms r ms', rel ms r ms' → ms.length = n ∧ ms'.length = ios.length)
    (hb : ∀ (cdv : Value) (A : Around) (outer : List Env) (s : Shared) (H : Hp) (E : XK) (H0 : Hp) (io : FS) (pin : List (Nat × V)) (mio : ∀ a, io a → Mut (H0 a)), (∀ p ∈ pin, p.1 ∈ ios) → Room k (A.deeper (PyProof.Rows.envOfC qual sc s.heap.objs.size f cdv)) → A.guards = some [] →
      ∀ ms r ms', rel ms r ms' → Ends1 (cxOf CX0 P w K mg base N qual sc f cdv A outer s H E).nox ⟨K, H0, io, pin, mio⟩ n N ios body ms r ms') :
    FnG P w K mg base (k + 1) f fd ps (spR K n ios rel) := by
  obtain ⟨oc, od, dV, kV, doc, pm, an, cdv, ct, osl, rfl, lk, hcd, _, _⟩ := F.ex
  refine FnG.of lk hcd S (spR_len hn) fun A outer s H vs Q E hr hg hsp => ?_
  obtain ⟨ms, G, r, ms', hvl, hms, hre, hml, q⟩ := hsp
  obtain ⟨l1, l2⟩ := hrel _ _ _ hre
  have mio : ∀ a, G a → Mut (H a) := fun a ha => rMs.mut hms ha
  let pin : List (Nat × V) := ios.map fun i => (i, vs.getD i .non)
  have hpin : ∀ p ∈ pin, p.1 ∈ ios := fun p hp => by
    obtain ⟨i, hi, rfl⟩ := List.mem_map.mp hp
    exact hi
  obtain ⟨Γr, hs, hΓ⟩ := hb cdv A outer s H E H G pin mio hpin hr hg ms r ms' hre
  refine ⟨_, hs, ?_⟩
  have hst : ∀ i, i < n → (L2.start N vs)[i]? = some (some (vs.getD i .non)) := fun i hi => by
    unfold L2.start
    rw [List.getElem?_append_left (by rw [List.length_map]; omega), List.getElem?_map]
    have : vs[i]? = some vs[i] := List.getElem?_eq_getElem (by omega)
    rw [this, List.getD_eq_getElem?_getD, this] <;> rfl
  have hlen : (L2.start N vs).length = N.length := by
    unfold L2.start
    rw [List.length_append, List.length_map, List.length_replicate]
    omega
  -- at the entry
  have B : AsB ⟨K, H, G, pin, mio⟩ (List.replicate N.length none) [] (L2.start N vs) [] ms vs H (fun _ => e0) G := by
    refine ⟨⟨by simp [hlen], rfl, fun i m e => ?_, fun k t e => by simp at e, fun x y _ => Dj.e0l, fun x a z => z.elim, fun x a z => z.elim, fun a o e _ => e, fun p hp => ?_⟩, hms, fun x => Dj.e0l, fun a ha => .inl ha⟩
    · rw [List.getElem?_replicate] at e
      split at e <;> cases e
    · obtain ⟨i, hi, rfl⟩ := List.mem_map.mp hp
      exact hst i (hin i hi)
  have A0 := B.putAll (js := (List.range' 0 ms.length).map some) fun k j hk => by
    rw [List.getElem?_map] at hk
    cases e : (List.range' 0 ms.length)[k]? with
    | none => rw [e] at hk; cases hk
    | some j' =>
      rw [e] at hk
      cases hk
      have hkl : k < ms.length := by
        have := (List.getElem?_eq_some_iff.mp e).1
        simpa using this
      have e2 : k = j := by
        rw [List.getElem?_range' hkl] at e
        have := Option.some.inj e
        omega
      subst e2
      refine ⟨vs.getD k .non, ?_, hst k (by omega)⟩
      have : vs[k]? = some vs[k] := List.getElem?_eq_getElem (by omega)
      rw [List.getD_eq_getElem?_getD, this] <;> rfl
  have e0' := putAll_start ms [] N.length (by omega)
  rw [List.nil_append] at e0'
  have e0'' : putAll (List.replicate N.length none) ((List.range' 0 ms.length).map some) ms = ms.map some ++ List.replicate (N.length - n) none := by
    have z : ([] : Ctx).length = 0 := rfl
    rw [z] at e0'
    rw [e0', l1]
    rfl
  rw [e0''] at A0
  refine ⟨⟨[], A0⟩, fun σ hs v H' h' => ?_⟩
  -- at the end
  obtain ⟨Γ', ts, us, h2, t1, t2, t3⟩ := takeAll (ios := ios) (ms := ms') h' hio l2 hΓ
  have hs0 : hs = [] := by
    obtain ⟨fp, W⟩ := h'
    have := W.ln
    simp at this
    exact this
  subst hs0
  have h3 : As ⟨K, H, G, pin, mio⟩ Γ' ([] ++ (.own r :: ts)) σ ([] ++ (v :: us)) H' := by simpa using h2
  obtain ⟨fp, G', B', _⟩ := As.blob (ms := r :: ms') (by simp [t1, T.mo]) (by simp [t2]) h3
  have eus : us = ios.map fun i => vs.getD i .non := by
    apply List.ext_getElem?
    intro k
    rw [List.getElem?_map]
    cases e : ios[k]? with
    | none =>
      have lk : ios.length ≤ k := List.getElem?_eq_none_iff.mp e
      have : us.length = ios.length := by
        have z : ts.length = ms'.length := by simpa using congrArg List.length t1
        omega
      rw [List.getElem?_eq_none (by omega)] <;> rfl
    | some i =>
      obtain ⟨u, hu, hσ⟩ := t3 k i e
      have hpm : (i, vs.getD i .non) ∈ pin := List.mem_map.mpr ⟨i, List.mem_of_getElem? e, rfl⟩
      have hσ2 := B'.w.pn _ hpm
      rw [hσ] at hσ2
      rw [hu]
      have z := Option.some.inj (Option.some.inj hσ2)
      rw [z]
      try rfl
  subst eus
  exact q v H' G' B'.r B'.s B'.w.fr
end RL

set_option maxHeartbeats 2000000
/-! RL10: data as the library reads them: ==, repr, isinstance; numbers; calls by names -/
namespace RL
open PySem L2

mutual
/-- a datum as the library tells it -/
def D.p : D → PyData
  | .non => .none
  | .bl b => .bool b
  | .int i => .int i
  | .str s => .str s
  | .tup l => .tuple (ps l)
  | .lst l => .list (ps l)
  | .dct _ => .none
  | .ty _ => .none
  | .tpw _ => .none
def ps : List D → List PyData
  | [] => []
  | d :: l => d.p :: ps l
end
mutual
/-- no dict and no class within, texts of signs alone -/
def D.ok : D → Bool
  | .non => true
  | .bl _ => true
  | .int _ => true
  | .str s => PyData.strOk s
  | .tup l => oks l
  | .lst l => oks l
  | .dct _ => false
  | .ty _ => false
  | .tpw _ => false
def oks : List D → Bool
  | [] => true
  | d :: l => d.ok && oks l
end
theorem oks_all : ∀ l : List D, oks l = l.all D.ok
  | [] => by unfold oks; rfl
  | d :: l => by unfold oks; rw [oks_all l] <;> rfl
mutual
theorem D.ok_lay : ∀ {d : D}, d.ok = true → d.p.canLay0 = true
  | .non, _ => by unfold D.p PyData.canLay0; rfl
  | .bl _, _ => by unfold D.p PyData.canLay0; rfl
  | .int _, _ => by unfold D.p PyData.canLay0; rfl
  | .str s, h => by unfold D.ok at h; unfold D.p PyData.canLay0; exact h
  | .tup l, h => by unfold D.ok at h; unfold D.p PyData.canLay0; exact oks_lay h
  | .lst l, h => by unfold D.ok at h; unfold D.p PyData.canLay0; exact oks_lay h
  | .dct _, h => by unfold D.ok at h; cases h
  | .ty _, h => by unfold D.ok at h; cases h
  | .tpw _, h => by unfold D.ok at h; cases h
theorem oks_lay : ∀ {l : List D}, oks l = true → PyData.canLayAll0 (ps l) = true
  | [], _ => by unfold ps PyData.canLayAll0; rfl
  | d :: l, h => by
    unfold oks at h
    rw [Bool.and_eq_true] at h
    unfold ps PyData.canLayAll0
    rw [D.ok_lay h.1, oks_lay h.2] <;> rfl
end
section
variable {X : Cx} {pins : List (Addr × Obj)} {σ : L2.St} {H : Hp} {s : Shared}
mutual
theorem rD.reads (I : Inv X pins σ H s) : ∀ {d : D} {v : V} {u : Value}, d.ok = true → rD X.K d v H → RelV v u → ∃ as, Reads s.heap u d.p as
  | .non, v, u, _, h, r => by unfold rD at h; subst h; cases (show u = Value.none from r); unfold D.p; exact ⟨_, .none⟩
  | .bl b, v, u, _, h, r => by unfold rD at h; subst h; cases (show u = Value.bool b from r); unfold D.p; exact ⟨_, .bool b⟩
  | .int i, v, u, _, h, r => by unfold rD at h; subst h; obtain ⟨t, rfl⟩ := r; unfold D.p; exact ⟨_, .int i t⟩
  | .str x, v, u, _, h, r => by unfold rD at h; subst h; obtain ⟨t, rfl⟩ := r; unfold D.p; exact ⟨_, .str x t⟩
  | .tup l, v, u, k, h, r => by
    unfold rD at h
    unfold D.ok at k
    obtain ⟨a, vs, e, hq, rd⟩ := h
    subst e
    cases (show u = Value.ref a from r)
    obtain ⟨its, rv, ⟨o, ho, hc, n, hd⟩, _⟩ := I.tuple hq.t
    obtain ⟨as, hr⟩ := rDs.reads I k rd rv
    unfold D.p
    exact ⟨_, .tuple ho hc hd hr⟩
  | .lst l, v, u, k, h, r => by
    unfold rD at h
    unfold D.ok at k
    obtain ⟨a, vs, e, hq, rd⟩ := h
    subst e
    cases (show u = Value.ref a from r)
    obtain ⟨its, rv, ⟨o, n, ho, hc, _, hd⟩, _⟩ := I.list (a := a) (xs := vs) hq.sq
    obtain ⟨as, hr⟩ := rDs.reads I k rd rv
    unfold D.p
    exact ⟨_, .list ho hc hd hr⟩
  | .dct _, v, u, k, h, r => by unfold D.ok at k; cases k
  | .ty _, v, u, k, h, r => by unfold D.ok at k; cases k
  | .tpw _, v, u, k, h, r => by unfold D.ok at k; cases k
theorem rDs.reads (I : Inv X pins σ H s) : ∀ {l : List D} {vs : List V} {us : List Value}, oks l = true → rDs X.K l vs H → Vals vs us → ∃ as, ReadsAll s.heap us (ps l) as
  | [], vs, us, _, h, r => by unfold rDs at h; subst h; cases r; unfold ps; exact ⟨_, .nil⟩
  | d :: l, vs, us, k, h, r => by
    unfold rDs at h
    unfold oks at k
    rw [Bool.and_eq_true] at k
    obtain ⟨w, ws, rfl, h1, h2⟩ := h
    cases r with
    | cons r1 r2 =>
      obtain ⟨as, q1⟩ := rD.reads I k.1 h1 r1
      obtain ⟨bs, q2⟩ := rDs.reads I k.2 h2 r2
      unfold ps
      exact ⟨_, .cons q1 q2⟩
end
theorem lst_reads (I : Inv X pins σ H s) {a : Addr} {vs : List V} {l : List D} (hl : SqL X.K H a vs) (k : oks l = true) (rd : rDs X.K l vs H) : ∃ as, Reads s.heap (.ref a) (.list (ps l)) as := by
  obtain ⟨its, rv, ⟨o, n, ho, hc, _, hd⟩, _⟩ := I.list hl
  obtain ⟨as, hr⟩ := rDs.reads I k rd rv
  exact ⟨_, .list ho hc hd hr⟩
end
/-- x bears p as data: a datum, or a list of data -/
inductive Bears (K : PySem.W.Frag) (H : Hp) : V → PyData → Prop where
  | d {d : D} {v : V} (k : d.ok = true) (h : rD K d v H) : Bears K H v d.p
  | l {l : List D} {a : Addr} {vs : List V} (k : oks l = true) (hl : SqL K H a vs) (h : rDs K l vs H) : Bears K H (.ref a) (.list (ps l))
def rEqB (K : PySem.W.Frag) : R2 := fun x y H Q => ∃ d e, Bears K H x d ∧ Bears K H y e ∧ d.canLay0 = true ∧ e.canLay0 = true ∧ min d.depth e.depth ≤ 64 ∧ Q (.bl (PyData.eqv d e)) H
def rNeB (K : PySem.W.Frag) : R2 := fun x y H Q => ∃ d e, Bears K H x d ∧ Bears K H y e ∧ d.canLay0 = true ∧ e.canLay0 = true ∧ min d.depth e.depth ≤ 64 ∧ Q (.bl (!PyData.eqv d e)) H
section
variable {X : Cx}
theorem Bears.reads {pins : List (Addr × Obj)} {σ : L2.St} {H : Hp} {s : Shared} (I : Inv X pins σ H s) {v : V} {u : Value} {p : PyData} (b : Bears X.K H v p) (r : RelV v u) : ∃ as, Reads s.heap u p as := by
  cases b with
  | d k h => exact h.reads I k r
  | l k hl h =>
    cases (show u = Value.ref _ from r)
    exact lst_reads I hl k h
theorem op_eqB (hu : X.A.units + 64 < cLine) : OpR X (compareOp .Eq) (rEqB X.K) := by
  rintro pins s σ H x y v u Q I rx ry ⟨d, e, b1, b2, l1, l2, hd, q⟩
  obtain ⟨as, r1⟩ := b1.reads I rx
  obtain ⟨bs, r2⟩ := b2.reads I ry
  exact SeqAt.compareEq_reads r1 r2 l1 l2 (by omega) ⟨.bl _, H, I, rfl, q⟩
theorem op_neB (hu : X.A.units + 64 < cLine) : OpR X (compareOp .NotEq) (rNeB X.K) := by
  rintro pins s σ H x y v u Q I rx ry ⟨d, e, b1, b2, l1, l2, hd, q⟩
  obtain ⟨as, r1⟩ := b1.reads I rx
  obtain ⟨bs, r2⟩ := b2.reads I ry
  exact SeqAt.compareNe_reads r1 r2 l1 l2 (by omega) ⟨.bl _, H, I, rfl, q⟩
/-- repr of data -/
def rRepr (K : PySem.W.Frag) : List V → Hp → VK → Prop := fun xs H Q => ∃ v p, xs = [v] ∧ Bears K H v p ∧ p.showable = true ∧ p.hasDict = false ∧ p.depth ≤ 60 ∧ p.shown.length ≤ sizeLine ∧ Q (.str p.shown) H
theorem call_repr (hg : X.A.guards = some []) (hu : X.A.units + 64 < cLine) : CallR X (.builtin "repr") (rRepr X.K) := by
  rintro pins s σ H xs us Q I r ⟨v, p, rfl, b, hs, hd, hp, hz, q⟩
  obtain ⟨u, rfl, ru⟩ := Vals.one r
  obtain ⟨as, rs⟩ := b.reads I ru
  have hsm := PyData.noDict_hsm (as := as) hd
  cases rs with
  | none => exact PySem.P.repr_of_none ⟨.str _, H, I.tok _, ⟨_, rfl⟩, by unfold PyData.shown at q; exact q⟩
  | bool b => exact PySem.P.repr_of_bool ⟨.str _, H, I.tok _, ⟨_, rfl⟩, by unfold PyData.shown at q; exact q⟩
  | int i t =>
    have hs' : i.natAbs.log2 < 1920 := by unfold PyData.showable at hs; exact of_decide_eq_true hs
    exact PySem.P.repr_of_int hs' ⟨.str _, H, I.tok _, ⟨_, rfl⟩, by unfold PyData.shown at q; exact q⟩
  | str x t => exact PySem.P.repr_of_str ⟨.str _, H, I.tok _, ⟨_, rfl⟩, by unfold PyData.shown at q; exact q⟩ (by unfold PyData.shown at hz; exact hz)
  | list h1 h2 h3 h4 => exact repr_of_reads' (.list h1 h2 h3 h4) hs hsm hg (by omega) (fun _ _ e => e) (fun h' u tk hk => ⟨.str _, H, I.kept (t' := tk) hk, ⟨_, rfl⟩, q⟩) hz
  | tuple h1 h2 h3 h4 => exact repr_of_reads' (.tuple h1 h2 h3 h4) hs hsm hg (by omega) (fun _ _ e => e) (fun h' u tk hk => ⟨.str _, H, I.kept (t' := tk) hk, ⟨_, rfl⟩, q⟩) hz
  | dict h1 h2 h3 h4 h5 => unfold PyData.hasDict at hd; cases hd
end

/-! ### over the state -/
section
variable {X : Cx} {C : Cn} {Γ Γ1 Γ2 Γ3 Γ' : Ctx} {Ts Hs : List T} {t t1 t2 t3 : T} {ts : List T} {e a b c : Expr} {es rest : List Expr} {pos p nm : Pos} {i j : Nat} {d d1 d2 d3 : D} {ds ds' : List D} {m : M} {b1 b2 k : Bool}
/-- what lies there bears data -/
inductive BT (Γ : Ctx) : T → PyData → Prop where
  | im {d : D} (k : d.ok = true) : BT Γ (.im d) d.p
  | src {t : T} {l : List D} (s : Src Γ t l) (k : oks l = true) : BT Γ t (.list (ps l))
theorem As.bears {σ : L2.St} {vs : List V} {v : V} {H : Hp} {q : PyData} (h : As C Γ (Ts ++ [t]) σ (vs ++ [v]) H) (b : BT Γ t q) : Bears C.K H v q := by
  cases b with
  | im k => exact .d k h.topIm
  | src s k =>
    obtain ⟨a, us, e, hl, rd⟩ := h.src s
    subst e
    exact .l k hl rd
theorem BT.lay {q : PyData} (b : BT Γ t q) : q.canLay0 = true := by
  cases b with
  | im k => exact D.ok_lay k
  | src s k => unfold PyData.canLay0; exact oks_lay k
theorem et_eqB {q1 q2 : PyData} (hu : X.A.units + 64 < cLine) (h1 : EE X C Γ Ts a Γ1 t1) (h2 : EE X C Γ1 (Ts ++ [t1]) b Γ2 t2) (k1 : BT Γ2 t1 q1) (k2 : BT Γ2 t2 q2) (hd : min q1.depth q2.depth ≤ 64) (hk : PyData.eqv q1 q2 = k) (hK : X.K = C.K := by rfl) : ET X C Γ Ts (.Compare a [.Eq] [b] pos) Γ2 k :=
  et_cmp (op_eqB hu) (nomark _) h1 h2 fun σ vs x y H hA Q q => ⟨q1, q2, by rw [hK]; exact hA.pop.bears k1, by rw [hK]; exact hA.bears k2, k1.lay, k2.lay, hd, q _ H (hA.pop.pop.pushIm Ext.refl (by unfold rD; rw [hk]))⟩
theorem et_neB {q1 q2 : PyData} (hu : X.A.units + 64 < cLine) (h1 : EE X C Γ Ts a Γ1 t1) (h2 : EE X C Γ1 (Ts ++ [t1]) b Γ2 t2) (k1 : BT Γ2 t1 q1) (k2 : BT Γ2 t2 q2) (hd : min q1.depth q2.depth ≤ 64) (hk : (!PyData.eqv q1 q2) = k) (hK : X.K = C.K := by rfl) : ET X C Γ Ts (.Compare a [.NotEq] [b] pos) Γ2 k :=
  et_cmp (op_neB hu) (nomark _) h1 h2 fun σ vs x y H hA Q q => ⟨q1, q2, by rw [hK]; exact hA.pop.bears k1, by rw [hK]; exact hA.bears k2, k1.lay, k2.lay, hd, q _ H (hA.pop.pop.pushIm Ext.refl (by unfold rD; rw [hk]))⟩
theorem eqv_nil (l : List D) : PyData.eqv (.list (ps l)) (.list (ps [])) = l.isEmpty := by
  cases l with
  | nil => unfold ps PyData.eqv PyData.eqvAll; rfl
  | cons d l => unfold ps PyData.eqv PyData.eqvAll; rfl
theorem dep_nil (q : PyData) : min q.depth (PyData.list (ps [])).depth ≤ 64 := by
  have : (PyData.list (ps [])).depth = 1 := by unfold ps PyData.depth PyData.depthAll; rfl
  rw [this]
  omega
/-- x == [], x != [] -/
theorem et_eqNil (hu : X.A.units + 64 < cLine) (h1 : EE X C Γ Ts a Γ1 t1) (s : Src Γ1 t1 ds) (ho : oks ds = true) {q : Pos} (hK : X.K = C.K := by rfl) : ET X C Γ Ts (.Compare a [.Eq] [.List [] q] pos) Γ1 ds.isEmpty :=
  et_eqB hu h1 (ee_lst (ds := []) ea_nil (by decide)) (.src s ho) (.src .own (by unfold oks; rfl)) (dep_nil _) (eqv_nil ds) hK
theorem et_neNil (hu : X.A.units + 64 < cLine) (h1 : EE X C Γ Ts a Γ1 t1) (s : Src Γ1 t1 ds) (ho : oks ds = true) {q : Pos} (hK : X.K = C.K := by rfl) : ET X C Γ Ts (.Compare a [.NotEq] [.List [] q] pos) Γ1 (!ds.isEmpty) :=
  et_neB hu h1 (ee_lst (ds := []) ea_nil (by decide)) (.src s ho) (.src .own (by unfold oks; rfl)) (dep_nil _) (congrArg not (eqv_nil ds)) hK
/-- what repr can show -/
def shows (q : PyData) : Bool := q.showable && !q.hasDict && decide (q.depth ≤ 60) && decide (q.shown.length ≤ sizeLine)
theorem ee_repr {q : PyData} (hG : X.A.guards = some []) (hu : X.A.units + 64 < cLine) (hm : X.mg "repr" = none) (h : EE X C Γ Ts e Γ1 t) (k : BT Γ1 t q) (hs : shows q = true) (hg : Gl X "repr" := by rfl) (hK : X.K = C.K := by rfl) (he : starEach [e] X.env = (false, eval e X.env) :: starEach [] X.env := by rfl) (hpl : (backTo pos (starEach [] X.env)).any (·.1) = false := by rfl) : EE X C Γ Ts (.Call (.Name "repr" nm) [e] [] pos) Γ1 (.im (.str q.shown)) :=
  cb_wk (ts := [t]) (fun σ vs us H hl h Q qq => by
    obtain ⟨u, rfl⟩ : ∃ u, us = [u] := List.length_eq_one_iff.mp hl
    unfold shows at hs
    simp only [Bool.and_eq_true, decide_eq_true_eq, Bool.not_eq_true'] at hs
    exact ⟨u, q, rfl, by rw [hK]; exact h.bears k, hs.1.1.1, hs.1.1.2, hs.1.2, hs.2, qq _ H (h.pop.pushIm Ext.refl (by unfold rD; rfl))⟩) (pe_callB (call_repr hG hu) hg hm (by decide +kernel) (ea_cons h ea_nil he) (by decide) (by decide) he hpl)
/-! #### numbers -/
theorem ee_abs {n : Int} (hm : X.mg "abs" = none) (h : EE X C Γ Ts e Γ1 (.im (.int n))) (hg : Gl X "abs" := by rfl) (he : starEach [e] X.env = (false, eval e X.env) :: starEach [] X.env := by rfl) (hpl : (backTo pos (starEach [] X.env)).any (·.1) = false := by rfl) : EE X C Γ Ts (.Call (.Name "abs" nm) [e] [] pos) Γ1 (.im (.int (if n < 0 then -n else n))) :=
  cb_wk (cls_1 fun x H hx Q q => by
    unfold rD at hx
    subst hx
    exact ⟨n, rfl, q _ (by unfold rD; rfl)⟩) (pe_callB call_abs hg hm (by decide +kernel) (ea_cons h ea_nil he) (by decide) (by decide) he hpl)
theorem ee_intI {n : Int} (hm : X.mg "int" = none) (h : EE X C Γ Ts e Γ1 (.im (.int n))) (hg : Gl X "int" := by rfl) (he : starEach [e] X.env = (false, eval e X.env) :: starEach [] X.env := by rfl) (hpl : (backTo pos (starEach [] X.env)).any (·.1) = false := by rfl) : EE X C Γ Ts (.Call (.Name "int" nm) [e] [] pos) Γ1 (.im (.int n)) :=
  cb_wk (cls_1 fun x H hx Q q => by
    unfold rD at hx
    subst hx
    exact .inl ⟨n, rfl, q _ (by unfold rD; rfl)⟩) (pe_callTy call_int1 hg hm (by decide +kernel) (ea_cons h ea_nil he) (by decide) (by decide) he hpl)
/-! #### isinstance -/
def D.tyn : D → String
  | .non => "NoneType" | .bl _ => "bool" | .int _ => "int" | .str _ => "str" | .tup _ => "tuple" | .lst _ => "list" | .dct _ => "dict" | .ty _ => "type" | .tpw _ => "tuple"
theorem rD.tyx {K : PySem.W.Frag} {H : Hp} {v : V} (h : rD K d v H) (hn : ∀ n, d ≠ .ty n) : TyX K H v (.type d.tyn) := by
  cases d with
  | non => unfold rD at h; subst h; exact .base .non
  | bl b => unfold rD at h; subst h; exact .base (.bl b)
  | int i => unfold rD at h; subst h; exact .base (.int i)
  | str s => unfold rD at h; subst h; exact .base (.str s)
  | tup l =>
    unfold rD at h
    obtain ⟨a, us, e, hq, _⟩ := h
    subst e
    rcases hq.t with (h1 | ⟨o, h1⟩) | ⟨o, its, n, h1, h2, _⟩
    · exact .base (.tup h1)
    · exact .fTuple h1
    · exact .kTuple h1 h2
  | lst l =>
    unfold rD at h
    obtain ⟨a, us, e, hq, _⟩ := h
    subst e
    rcases hq with ⟨o, h1⟩ | ⟨o, its, n, h1, h2, _⟩
    · exact .base (.frz h1)
    · exact .kList h1 h2
  | dct l =>
    unfold rD at h
    obtain ⟨a, o, us, e, hq, _⟩ := h
    subst e
    exact .fDict hq
  | tpw l =>
    unfold rD at h
    obtain ⟨a, us, e, hq, _⟩ := h
    subst e
    rcases hq with (h1 | ⟨o, h1⟩) | ⟨o, its, n, h1, h2, _⟩
    · exact .base (.tup h1)
    · exact .fTuple h1
    · exact .kTuple h1 h2
  | ty n => exact absurd rfl (hn n)
theorem ee_ty {x : Str} {n : String} (hm : X.mg x = none) (hv : bootBuiltins x = some (.type n)) (hg : Gl X x := by rfl) (hn : x ≠ "__name__" := by decide) (hd : (x == ("__debug__" : Str)) = false := by decide) : EE X C Γ Ts (.Name x pos) Γ (.im (.ty n)) :=
  ee_cst (v := .ty n) (pe_bltn hg hm hv rfl hn hd) fun H => by unfold rD; rfl
theorem ee_isi {n : String} (hm : X.mg "isinstance" = none) (h : EE X C Γ Ts a Γ1 (.im d)) (h2 : EE X C Γ1 (Ts ++ [.im d]) b Γ2 (.im (.ty n))) (hk : kitB d.tyn n = some k) (hd : ∀ n, d ≠ .ty n) (hg : Gl X "isinstance" := by rfl) (hK : X.K = C.K := by rfl) (he : starEach [a, b] X.env = (false, eval a X.env) :: starEach [b] X.env := by rfl) (heb : starEach [b] X.env = (false, eval b X.env) :: starEach [] X.env := by rfl) (hpl : (backTo pos (starEach [b] X.env)).any (·.1) = false := by rfl) :
    EE X C Γ Ts (.Call (.Name "isinstance" nm) [a, b] [] pos) Γ2 (.im (.bl k)) :=
  cb_wk (cls_2 (d1 := d) (d2 := .ty n) fun x y H hx hy Q q => by
    unfold rD at hy
    subst hy
    exact ⟨x, .ty n, .type d.tyn, .type n, k, rfl, .ty n, by rw [hK]; exact hx.tyx hd, kit_ty hk, q _ (by unfold rD; rfl)⟩) (pe_callB call_isi hg hm (by decide +kernel) (ea_cons h (ea_cons h2 ea_nil heb) he) (by decide) (by decide) he hpl)
end
def D.is_tuple : D → Bool
  | .tup _ => true
  | .tpw _ => true
  | _ => false
theorem kit_tuple : ∀ {d : D}, (∀ n, d ≠ .ty n) → kitB d.tyn "tuple" = some d.is_tuple
  | .non, _ => (by decide +kernel : kitB "NoneType" "tuple" = some false)
  | .bl _, _ => (by decide +kernel : kitB "bool" "tuple" = some false)
  | .int _, _ => (by decide +kernel : kitB "int" "tuple" = some false)
  | .str _, _ => (by decide +kernel : kitB "str" "tuple" = some false)
  | .tup _, _ => (by decide +kernel : kitB "tuple" "tuple" = some true)
  | .lst _, _ => (by decide +kernel : kitB "list" "tuple" = some false)
  | .dct _, _ => (by decide +kernel : kitB "dict" "tuple" = some false)
  | .tpw _, _ => (by decide +kernel : kitB "tuple" "tuple" = some true)
  | .ty n, h => absurd rfl (h n)
def D.is_bool : D → Bool
  | .bl _ => true
  | _ => false
theorem kit_bool : ∀ {d : D}, (∀ n, d ≠ .ty n) → kitB d.tyn "bool" = some d.is_bool
  | .non, _ => (by decide +kernel : kitB "NoneType" "bool" = some false)
  | .bl _, _ => (by decide +kernel : kitB "bool" "bool" = some true)
  | .int _, _ => (by decide +kernel : kitB "int" "bool" = some false)
  | .str _, _ => (by decide +kernel : kitB "str" "bool" = some false)
  | .tup _, _ => (by decide +kernel : kitB "tuple" "bool" = some false)
  | .lst _, _ => (by decide +kernel : kitB "list" "bool" = some false)
  | .dct _, _ => (by decide +kernel : kitB "dict" "bool" = some false)
  | .tpw _, _ => (by decide +kernel : kitB "tuple" "bool" = some false)
  | .ty n, h => absurd rfl (h n)
def D.is_int : D → Bool
  | .int _ => true
  | .bl _ => true
  | _ => false
theorem kit_int : ∀ {d : D}, (∀ n, d ≠ .ty n) → kitB d.tyn "int" = some d.is_int
  | .non, _ => (by decide +kernel : kitB "NoneType" "int" = some false)
  | .bl _, _ => (by decide +kernel : kitB "bool" "int" = some true)
  | .int _, _ => (by decide +kernel : kitB "int" "int" = some true)
  | .str _, _ => (by decide +kernel : kitB "str" "int" = some false)
  | .tup _, _ => (by decide +kernel : kitB "tuple" "int" = some false)
  | .lst _, _ => (by decide +kernel : kitB "list" "int" = some false)
  | .dct _, _ => (by decide +kernel : kitB "dict" "int" = some false)
  | .tpw _, _ => (by decide +kernel : kitB "tuple" "int" = some false)
  | .ty n, h => absurd rfl (h n)
def D.is_str : D → Bool
  | .str _ => true
  | _ => false
theorem kit_str : ∀ {d : D}, (∀ n, d ≠ .ty n) → kitB d.tyn "str" = some d.is_str
  | .non, _ => (by decide +kernel : kitB "NoneType" "str" = some false)
  | .bl _, _ => (by decide +kernel : kitB "bool" "str" = some false)
  | .int _, _ => (by decide +kernel : kitB "int" "str" = some false)
  | .str _, _ => (by decide +kernel : kitB "str" "str" = some true)
  | .tup _, _ => (by decide +kernel : kitB "tuple" "str" = some false)
  | .lst _, _ => (by decide +kernel : kitB "list" "str" = some false)
  | .dct _, _ => (by decide +kernel : kitB "dict" "str" = some false)
  | .tpw _, _ => (by decide +kernel : kitB "tuple" "str" = some false)
  | .ty n, h => absurd rfl (h n)
def D.is_list : D → Bool
  | .lst _ => true
  | _ => false
theorem kit_list : ∀ {d : D}, (∀ n, d ≠ .ty n) → kitB d.tyn "list" = some d.is_list
  | .non, _ => (by decide +kernel : kitB "NoneType" "list" = some false)
  | .bl _, _ => (by decide +kernel : kitB "bool" "list" = some false)
  | .int _, _ => (by decide +kernel : kitB "int" "list" = some false)
  | .str _, _ => (by decide +kernel : kitB "str" "list" = some false)
  | .tup _, _ => (by decide +kernel : kitB "tuple" "list" = some false)
  | .lst _, _ => (by decide +kernel : kitB "list" "list" = some true)
  | .dct _, _ => (by decide +kernel : kitB "dict" "list" = some false)
  | .tpw _, _ => (by decide +kernel : kitB "tuple" "list" = some false)
  | .ty n, h => absurd rfl (h n)
end RL

set_option maxHeartbeats 2000000
/-! RL11: in, calls by names, more walks, the law's own end -/
namespace RL
open PySem L2

/-! ### comprehensions without a state -/
theorem lcM_map {S α β : Type} (g : α → β) (s : S) : ∀ xs : List α, lcM (fun (s : S) x => some (s, some (g x))) s xs = some (s, xs.map g)
  | [] => rfl
  | x :: xs => by
    show (lcM _ s xs).bind _ = _
    rw [lcM_map g s xs] <;> rfl
theorem lcM_filter {S α β : Type} (t : α → Bool) (g : α → β) (s : S) : ∀ xs : List α, lcM (fun (s : S) x => some (s, if t x = true then some (g x) else none)) s xs = some (s, (xs.filter t).map g)
  | [] => rfl
  | x :: xs => by
    show (lcM _ s xs).bind _ = _
    rw [lcM_filter t g s xs]
    cases h : t x with
    | true => simp [h]
    | false => simp [h]

section
variable {X : Cx} {C : Cn} {Γ Γ1 Γ2 Γ3 Γ' : Ctx} {Ts Hs : List T} {t t1 t2 t3 : T} {ts : List T} {e a b c tg iter : Expr} {es rest : List Expr} {kws : List Keyword} {pos p nm kp : Pos} {i j : Nat} {d d1 d2 d3 r : D} {ds ds' ds1 ds2 : List D} {m rm : M} {b1 b2 k : Bool}
/-! ### in -/
theorem rDs_ints {K : PySem.W.Frag} {H : Hp} : ∀ {xs : List Int} {us : List V}, rDs K (xs.map D.int) us H → us = xs.map V.int
  | [], us, h => by have h : rDs K [] us H := h; unfold rDs at h; rw [h] <;> rfl
  | x :: xs, us, h => by
    have h : rDs K (D.int x :: xs.map D.int) us H := h
    unfold rDs at h
    obtain ⟨w, ws, rfl, r, s⟩ := h
    unfold rD at r
    rw [r, rDs_ints s] <;> rfl
theorem rDs_strs {K : PySem.W.Frag} {H : Hp} : ∀ {xs : List Str} {us : List V}, rDs K (xs.map D.str) us H → us = xs.map V.str
  | [], us, h => by have h : rDs K [] us H := h; unfold rDs at h; rw [h] <;> rfl
  | x :: xs, us, h => by
    have h : rDs K (D.str x :: xs.map D.str) us H := h
    unfold rDs at h
    obtain ⟨w, ws, rfl, r, s⟩ := h
    unfold rD at r
    rw [r, rDs_strs s] <;> rfl
theorem inV_ints (x : Int) (xs : List Int) : inV (.int x) (xs.map V.int) = decide (x ∈ xs) := by
  unfold inV
  induction xs with
  | nil => rfl
  | cons y ys ih =>
    rw [List.map_cons, List.any_cons, ih]
    show ((y == x) || _) = _
    by_cases e : y = x
    · subst e; simp
    · have e' : ¬ x = y := fun z => e z.symm
      simp [e, e']
theorem inV_strs (x : Str) (xs : List Str) : inV (.str x) (xs.map V.str) = decide (x ∈ xs) := by
  unfold inV
  induction xs with
  | nil => rfl
  | cons y ys ih =>
    rw [List.map_cons, List.any_cons, ih]
    show ((y == x) || _) = _
    by_cases e : y = x
    · subst e; simp
    · have e' : ¬ x = y := fun z => e z.symm
      have e2 : (y == x) = false := by rw [beq_eq_false_iff_ne]; exact e
      rw [e2]
      simp [e']
theorem flat_ints (xs : List Int) : (xs.map V.int).all flatV = true := by simp [List.all_map]; intro x _; rfl
theorem flat_strs (xs : List Str) : (xs.map V.str).all flatV = true := by simp [List.all_map]; intro x _; rfl
/-- the data of a list or of a tuple -/
inductive SrcQ (Γ : Ctx) : T → List D → Prop where
  | l {t : T} {ds : List D} (s : Src Γ t ds) : SrcQ Γ t ds
  | t {ds : List D} : SrcQ Γ (.im (.tup ds)) ds
theorem As.srcQ {σ : L2.St} {vs : List V} {v : V} {H : Hp} (h : As C Γ (Ts ++ [t]) σ (vs ++ [v]) H) (s : SrcQ Γ t ds) : ∃ a us, v = .ref a ∧ (SqL C.K H a us ∨ SqT C.K H a us) ∧ rDs C.K ds us H := by
  cases s with
  | l s =>
    obtain ⟨a, us, e, hl, rd⟩ := h.src s
    exact ⟨a, us, e, .inl hl, rd⟩
  | t =>
    have r := h.topIm
    unfold rD at r
    obtain ⟨a, us, e, hl, rd⟩ := r
    exact ⟨a, us, e, .inr hl, rd⟩
theorem r2s_inI {x : Int} {xs : List Int} {neg : Bool} (s : SrcQ Γ t (xs.map .int)) (hK : X.K = C.K) : R2S C Γ Ts (.im (.int x)) t (rIn X.K neg) Γ (.im (.bl (if neg then !decide (x ∈ xs) else decide (x ∈ xs)))) := fun σ vs u y H hA Q q => by
  obtain ⟨a, us, rfl, hq, rd⟩ := hA.srcQ s
  have ex := hA.pop.topIm
  unfold rD at ex
  subst ex
  rw [rDs_ints rd] at hq
  refine ⟨a, _, rfl, by rw [hK]; exact hq, rfl, flat_ints xs, q _ H (hA.pop.pop.pushIm Ext.refl ?_)⟩
  unfold rD
  rw [inV_ints]
theorem r2s_inS {x : Str} {xs : List Str} {neg : Bool} (s : SrcQ Γ t (xs.map .str)) (hK : X.K = C.K) : R2S C Γ Ts (.im (.str x)) t (rIn X.K neg) Γ (.im (.bl (if neg then !decide (x ∈ xs) else decide (x ∈ xs)))) := fun σ vs u y H hA Q q => by
  obtain ⟨a, us, rfl, hq, rd⟩ := hA.srcQ s
  have ex := hA.pop.topIm
  unfold rD at ex
  subst ex
  rw [rDs_strs rd] at hq
  refine ⟨a, _, rfl, by rw [hK]; exact hq, rfl, flat_strs xs, q _ H (hA.pop.pop.pushIm Ext.refl ?_)⟩
  unfold rD
  rw [inV_strs]
theorem et_inI {x : Int} {xs : List Int} (h1 : EE X C Γ Ts a Γ1 (.im (.int x))) (h2 : EE X C Γ1 (Ts ++ [.im (.int x)]) b Γ2 t) (s : SrcQ Γ2 t (xs.map .int)) (hm : behindInMarks .In b = false := by rfl) (hK : X.K = C.K := by rfl) : ET X C Γ Ts (.Compare a [.In] [b] pos) Γ2 (decide (x ∈ xs)) := et_cmp op_in_seq hm h1 h2 (r2s_inI s hK)
theorem et_ninI {x : Int} {xs : List Int} (h1 : EE X C Γ Ts a Γ1 (.im (.int x))) (h2 : EE X C Γ1 (Ts ++ [.im (.int x)]) b Γ2 t) (s : SrcQ Γ2 t (xs.map .int)) (hm : behindInMarks .NotIn b = false := by rfl) (hK : X.K = C.K := by rfl) : ET X C Γ Ts (.Compare a [.NotIn] [b] pos) Γ2 (!decide (x ∈ xs)) := et_cmp op_notIn_seq hm h1 h2 (r2s_inI s hK)
theorem et_inS {x : Str} {xs : List Str} (h1 : EE X C Γ Ts a Γ1 (.im (.str x))) (h2 : EE X C Γ1 (Ts ++ [.im (.str x)]) b Γ2 t) (s : SrcQ Γ2 t (xs.map .str)) (hm : behindInMarks .In b = false := by rfl) (hK : X.K = C.K := by rfl) : ET X C Γ Ts (.Compare a [.In] [b] pos) Γ2 (decide (x ∈ xs)) := et_cmp op_in_seq hm h1 h2 (r2s_inS s hK)
/-! ### a list that never changes is walked -/
theorem it_lstF (h : EE X C Γ Hs iter Γ1 (.im (.lst ds))) (hK : X.K = C.K := by rfl) : IT X C Hs tg iter Γ Γ1 (fun v => .hid (.im (.lst ds)) v) (fun _ => True) ds := (pi_list h).wk fun σ H R ⟨hs, h0, q⟩ => ⟨hs, h0, fun v H1 h1 => by
  obtain ⟨a, us, e, hl, rd⟩ := h1.src .fz
  subst e
  refine ⟨a, rfl, ⟨us, by rw [hK]; exact hl⟩, q (.ref a) _ H1 h1.hide ⟨_, _, (by rw [hK]; exact walk_lst), ?_, ?_⟩⟩
  · intro Γ' σ' hs' H' _ hA
    obtain ⟨F, ⟨_, r⟩, _⟩ := hA.top
    unfold rM at r
    have r := r.1
    unfold rD at r
    obtain ⟨a', us', e', hl', rd'⟩ := r
    cases e'
    exact ⟨us', hl'.sq, rd'⟩
  · rintro i H' x H'' hi _ ⟨e1, d, hd, rd⟩
    subst e1
    exact ⟨Ext.refl, d, hd, rd⟩⟩
/-! ### calls by names, of data alone -/
abbrev EKw (X : Cx) (C : Cn) (Γ : Ctx) (Ts : List T) (es : List Keyword) (Γ' : Ctx) (ts : List T) : Prop := PK X es (ar C Γ Ts Γ' ts)
theorem _root_.L2.PK.wk {X : Cx} {e : List Keyword} {t t' : TA} (h : PK X e t) (w : ∀ σ H Q, t' σ H Q → t σ H Q) : PK X e t' := ⟨fun pos pins s σ H Q I q => h.run pos pins s σ H Q I (w _ _ _ q)⟩
theorem ek_nil : EKw X C Γ Ts [] Γ [] := pk_nil.wk fun σ H Q ⟨vs, h, q⟩ => q [] H rfl (by simpa using h)
theorem ek_cons {nmk : Option Str} (h1 : EE X C Γ Ts e Γ1 t) (h2 : EKw X C Γ1 (Ts ++ [t]) kws Γ2 ts) : EKw X C Γ Ts (⟨nmk, e, kp⟩ :: kws) Γ2 (t :: ts) := (pk_cons h1 h2).wk fun σ H Q ⟨vs, h, q⟩ =>
  ⟨vs, h, fun v H1 h1 => ⟨vs ++ [v], h1, fun us H2 hl h2 => q (v :: us) H2 (by simp [hl]) (by simpa using h2)⟩⟩
theorem spR_im {n : Nat} {rel : List M → M → List M → Prop} {σ : L2.St} {vs us : List V} {H : Hp} {Q : VK} (hK : X.K = C.K) (hn : ds.length = n) (rd : rDs C.K ds us H) (hrel : rel (ds.map M.im) rm []) (h : As C Γ Ts σ vs H) (q : ∀ v H', As C Γ (Ts ++ [.own rm]) σ (vs ++ [v]) H' → Q v H') : spR X.K n [] rel us H Q E0 := by
  rw [hK]
  refine ⟨ds.map .im, e0, rm, [], by rw [rd.len]; exact hn, rMs.im rd (fun _ z => z), hrel, rfl, fun v H' F' h1 h2 h3 => q v H' ?_⟩
  have ex : Ext H H' := fun a o z => h3 a o z fun z => z
  unfold rMs at h1
  obtain ⟨w, ws, F1, F2, e, r1, r2, _, hF⟩ := h1
  cases e
  refine h.push ex (t := .own rm) (F := F1) r1 (fun a ha => ?_) fun a ha => rM.mut r1 ha
  rcases h2 a ((hF a).2 (.inl ha)) with z | z
  · exact z.elim
  · exact z
theorem ee_callK0 {k n : Nat} {f : Addr} {fd : FuncData} {ps ks : List Str} {x : Str} {gV : List V → List V → List V} {g : List Value → List Value → List Value} {rel : List M → M → List M → Prop}
    (F : FnG X.prog X.w X.K X.mg X.base k f fd ps (spR X.K n [] rel)) (hr : Room k X.A) (hG : X.A.guards = some []) (hm : X.mg x = some (.ref f)) (hk : PySem.W.keepIn X.K (.ref f) = true) (hb : KBinds X.K fd ps ks g gV)
    (h : EKw X C Γ Ts kws Γ1 (ds2.map T.im)) (hg2 : ∀ zs H, rDs C.K ds2 zs H → rDs C.K ds (gV [] zs) H) (hn : ds.length = n) (hrel : rel (ds.map M.im) rm []) (hg : Gl X x := by rfl) (hK : X.K = C.K := by rfl) (hall : (backToKw pos (keywordEach kws X.env)).all (·.1.isSome) = true := by rfl) (hks : (backToKw pos (keywordEach kws X.env)).filterMap (·.1) = ks := by rfl)
    (hdb : (x == ("__debug__" : Str)) = false := by decide) (hpl : ((backTo pos (starEach [] X.env)).any (·.1) || (backToKw pos (keywordEach kws X.env)).any (·.1.isNone)) = false := by rfl) :
    EE X C Γ Ts (.Call (.Name x p) [] kws pos) Γ1 (.own rm) :=
  (pe_callGK0 F hr hG hg hm hk hb h hall hks hdb hpl).wk fun σ H Q ⟨vs, h, q⟩ => ⟨vs, h, fun zs H1 hl h1 => by
    obtain ⟨rd, h2⟩ := As.ims (by simpa using hl) h1
    exact spR_im hK hn (hg2 zs H1 rd) hrel h2 q⟩
end
/-- how a def without defaults takes names -/
theorem kbinds_of {K : PySem.W.Frag} {x qual : Str} {params : Arguments} {body : List Stmt} {scope : Scope} {f : Addr} {fd : FuncData} {ps ks : List Str} {g : List Value → List Value → List Value} {gV : List V → List V → List V} (F : FunD K x qual params body scope [] [] f fd)
    (h : ∀ (kV doc pm : Value) (an : Option Addr) (cdv ct : Value) (us ws : List Value), (g us ws).length = ps.length → bindArgs (PySem.W.fnOf x qual params body scope .none kV doc pm an cdv ct) ⟨us, ks.zip ws⟩ = pure (ps.zip (g us ws)))
    (hr : ∀ {vs : List V} {us : List Value} {zs : List V} {ws : List Value}, Vals vs us → Vals zs ws → Vals (gV vs zs) (g us ws)) : KBinds K fd ps ks g gV := by
  obtain ⟨oc, od, dV, kV, doc, pm, an, cdv, ct, osl, rfl, lk, hcd, hD, hK⟩ := F.ex
  rcases hD with ⟨_, rfl⟩ | ⟨e, _⟩
  · exact ⟨fun s us ws _ hl => .of_eq (h kV doc pm an cdv ct us ws hl), hr⟩
  · exact absurd rfl e
end RL

set_option maxHeartbeats 2000000
/-! RL12: the end of a law -/
namespace RL
open PySem L2 PySem.Spec PyProof.Rows

/-- the law, called as a row calls it -/
theorem lawG {P : Program} {w : World} {K : PySem.W.Frag} {mg mb : Str → Option Value} {k : Nat} {fa a : Addr} {fd : FuncData} {x : Str} {sp : Sp} {s1 : Shared} {vs : List Value} {ns : List Int}
    (kin : K.In s1.heap) (hns : s1.heap.Ns mainGlobals mg) (hb : s1.heap.Ns builtinsNs mb) (hbb : ∀ y : Str, y ≠ "__name__" → mb y = bootBuiltins y) (nol : s1.heap.NoLimit) (hgs : s1.gens = #[])
    (obj : s1.heap.get? a = some { cls := .type "list", data := .seq vs.toArray }) (hin : IntsAre vs ns) (len : ns.length ≤ sizeLine) (room : Room k callerA)
    (F : ∀ base : Heap, K.In base → base.Ns mainGlobals mg → FnG P w K mg base k fa fd [x] sp) (bind : ∀ (s : Shared) (u : Value), BindsTo s fd ⟨[u], []⟩ [(x, u)])
    (hsp : ∀ H : Hp, FzL K H a (ns.map V.int) → sp [.ref a] H (fun v _ => v = .bl true) fun _ _ _ => False) :
    codeAny (model P w) callerA (.call (.ref fa) ⟨[.ref a], []⟩) (fun r s' => r = .ok (.ret (.bool true)) ∧ OldK s1.heap s'.heap ∧ s'.os = s1.os ∧ AllBare s'.gens) s1 := by
  have vals := vals_ints hin
  have vlen := hin.length
  have go : ∀ H : Hp, (∀ b, H b = none ∨ (b = a ∧ H b = some (.frz { cls := .type "list", data := .seq vs.toArray } (.lst (ns.map V.int))))) → FzL K H a (ns.map V.int) → HOk P w H s1.heap → (H a ≠ none → K.lookup a = none) →
      codeAny (model P w) callerA (.call (.ref fa) ⟨[.ref a], []⟩) (fun r s' => r = .ok (.ret (.bool true)) ∧ OldK s1.heap s'.heap ∧ s'.os = s1.os ∧ AllBare s'.gens) s1 := by
    intro H only fz ok nk
    have dictFree : ∀ {b : Addr} {o : Obj} {es : Array DictEntry} {ep : Nat}, s1.heap.get? b = some o → o.data = .dict es ep → H b = none := by
      intro b o es ep e d
      rcases only b with z | ⟨z, _⟩
      · exact z
      · subst z
        rw [obj] at e
        cases e
        have d' : Data.seq vs.toArray _ = Data.dict es ep := d
        cases d'
    have nsB : ∀ {b : Addr} {m : Str → Option Value}, s1.heap.Ns b m → (hidT s1.heap H).Ns b m := by
      rintro b m ⟨o, es, ep, e, d, r⟩
      exact ⟨o, es, ep, hidT_get e (dictFree e d), d, r⟩
    have kinB : K.In (hidT s1.heap H) := by
      intro b o e
      refine hidT_get (kin b o e) ?_
      rcases only b with z | ⟨z, q⟩
      · exact z
      · subst z
        rw [nk (by rw [q]; simp)] at e
        cases e
    have env : Env0 P w K mg (hidT s1.heap H) callerA [] s1 H := by
      refine ⟨rfl, ⟨kinB, nsB hns, ⟨mb, nsB hb, hbb⟩, ?_⟩, fun b o e => of_hidT e, Nat.le_of_eq (hidT_size _ _), trivial, ?_, ok, .of_eq hgs⟩
      · obtain ⟨mc, h1, h2⟩ := nol
        exact ⟨mc, nsB h1, h2⟩
      · intro b hb
        exact absurd (show b ∈ ([] : List Addr) from hb) (by simp)
    refine codeAny_mono ((F _ kinB (nsB hns)).go callerA [] s1 H ⟨[.ref a], []⟩ [.ref a] [.ref a] _ _ room rfl env (bind s1 (.ref a)) (.cons rfl .nil) (hsp H fz)) (fun r s' h => ?_)
    match r, h with
    | .error e, h => exact h.elim
    | .ok .next, h => exact h.elim
    | .ok .brk, h => exact h.elim
    | .ok .cont, h => exact h.elim
    | .ok (.ret u), h =>
      obtain ⟨v, H', os, bare, un, ok', rel, q⟩ := h
      have q' : v = .bl true := q
      subst q'
      obtain rfl : u = Value.bool true := rel
      refine ⟨rfl, OldK.of_keep (fun b o e => ?_), os, bare⟩
      rcases only b with z | ⟨z, z2⟩
      · exact un.keep b o e z (fun m => absurd (show b ∈ ([] : List Addr) from m) (by simp)) (by simp)
      · have e1 := (ok b _ z2).1
        have e2 := (ok' b _ (un.frzs b _ _ z2)).1
        rw [e] at e1
        cases e1
        exact e2
  cases hk : K.lookup a with
  | some o =>
    have e := kin a o hk
    rw [obj] at e
    cases e
    refine go (fun _ => none) (fun _ => .inl rfl) (.inr ⟨_, vs.toArray, _, hk, rfl, rfl, rfl, by rw [List.size_toArray, vlen]; exact len, by simpa using vals⟩) ?_ fun z => absurd rfl z
    intro b u z
    cases z
  | none =>
    refine go (fun b => if b = a then some (.frz { cls := .type "list", data := .seq vs.toArray } (.lst (ns.map V.int))) else none) (fun b => ?_) (.inl ⟨_, if_pos rfl⟩) ?_ fun _ => hk
    · by_cases e : b = a
      · exact .inr ⟨e, if_pos e⟩
      · exact .inl (if_neg e)
    · intro b u z
      by_cases e : b = a
      · subst e
        have z' := (if_pos rfl).symm.trans z
        cases z'
        exact ⟨obj, by rw [List.length_map]; exact len, vs, _, vals, obj⟩
      · have z' := (if_neg e).symm.trans z
        cases z'
/-- what a law has to come to -/
def lawRel (n : Nat) (f : List Int → Option Bool) : List M → M → List M → Prop := fun ms r ms' => ∃ ns : List Int, ns.length ≤ n ∧ ms = [.im (.lst (ns.map .int))] ∧ f ns = some true ∧ r = .im (.bl true) ∧ ms' = []
/-- the goal that a head leaves -/
theorem walkG {l : PySem.W.OpenLaw} {n k : Nat} {q : Program} {loose : List Str} {XP : (Str → Option Value) → Heap → Prop} {YP : World → Heap → Prop} {d : DefRec} {x : Str}
    (hn : l.most = some n) (hn2 : n ≤ sizeLine) (hdf : d.params.defaults = []) (room : Room k callerA)
    (F : ∀ (w : World) (mg : Str → Option Value) (fa : Addr) (h : Heap), YP w h → h.Ns mainGlobals mg → mg d.name = some (.ref fa) →
      ∃ (K : PySem.W.Frag) (fd : FuncData) (f : List Int → Option Bool), K.In h ∧ (∀ (s : Shared) (u : Value), BindsTo s fd ⟨[u], []⟩ [(x, u)]) ∧ (∀ ns : List Int, ns.length ≤ n → f ns = some true) ∧
        ∀ base : Heap, K.In base → base.Ns mainGlobals mg → FnG l.prog w K mg base k fa fd [x] (spR K 1 [] (lawRel n f))) :
    PySem.W.WalkO q loose XP YP l.row.toRowW d [] (fun f vs => PySem.call f vs) := by
  refine Att.attach_call hn hdf fun w s₀ s₁ mg mb fa o pm cd doc a vs ns G Y ho hd hcd hmg hobj hints hlen hg => ?_
  obtain ⟨K, fd, f, KX, hb, hf, hF⟩ := F w mg fa _ Y G.T.g hmg
  refine lawG KX G.T.g G.T.b G.T.builtins G.T.nolimit hg hobj hints (Nat.le_trans hlen hn2) room hF hb fun H fz => ?_
  refine ⟨[.im (.lst (ns.map .int))], e0, .im (.bl true), [], rfl, ?_, ⟨ns, hlen, rfl, hf ns hlen, rfl, rfl⟩, rfl, fun v H' F' h1 _ _ => ?_⟩
  · refine rMs.im (ds := [.lst (ns.map .int)]) (.one ?_) fun _ z => z
    unfold rD
    refine ⟨a, _, rfl, fz, ?_⟩
    clear hf hlen fz hints
    induction ns with
    | nil => show rDs K [] [] H; unfold rDs; rfl
    | cons n ns ih =>
      show rDs K (D.int n :: ns.map D.int) (V.int n :: ns.map V.int) H
      unfold rDs
      exact ⟨_, _, rfl, by unfold rD; rfl, ih⟩
  · unfold rMs at h1
    obtain ⟨v', _, _, _, e, r, _⟩ := h1
    cases e
    unfold rM at r
    have r := r.1
    unfold rD at r
    exact r
end RL

set_option maxHeartbeats 2000000
/-! RL13: what lies within a slot: dicts, lists of lists -/
namespace RL
open PySem L2

/-- what stands at a key, first of its kind -/
def getM : List (Key × M) → Key → Option M
  | [], _ => none
  | (k, m) :: l, x => if k = x then some m else getM l x
def updM : List (Key × M) → Key → M → List (Key × M)
  | [], _, _ => []
  | (k, m) :: l, x, m' => if k = x then (k, m') :: l else (k, m) :: updM l x m'
theorem valV_cons {k x : Key} {v : V} {r : List (Key × V)} : valV ((k, v) :: r) x = if k = x then some v else valV r x := by
  by_cases h : k = x
  · rw [if_pos h]; exact valV_pos h
  · rw [if_neg h]; exact valV_neg h
section
variable {K : PySem.W.Frag} {H : Hp}
theorem rMk.zoom {k : Key} {m : M} : ∀ {ks : List (Key × M)} {kvs : List (Key × V)} {F : FS}, rMk K ks kvs H F → getM ks k = some m →
    ∃ v F1, valV kvs k = some v ∧ rM K m v H F1 ∧ (∀ a, F1 a → F a) ∧ ∀ m' H' F1', TF H H' → (∀ a, F a → ¬ F1 a → H' a = H a) → rM K m' v H' F1' → (∀ a, F1' a → F1 a ∨ ¬ F a) →
      ∃ F', rMk K (updM ks k m') kvs H' F' ∧ ∀ a, F' a → (F a ∧ ¬ F1 a) ∨ F1' a
  | [], kvs, F, h, e => by cases e
  | (x, m0) :: ks, kvs, F, h, e => by
    unfold rMk at h
    obtain ⟨w, ws, Fa, Fb, rfl, r1, r2, dj, f⟩ := h
    unfold getM at e
    by_cases hx : x = k
    · rw [if_pos hx] at e
      cases e
      refine ⟨w, Fa, by rw [valV_cons, if_pos hx], r1, fun a z => (f a).2 (.inl z), fun m' H' F1' tf keep r n => ⟨fun a => F1' a ∨ Fb a, ?_, ?_⟩⟩
      · unfold updM
        rw [if_pos hx]
        unfold rMk
        refine ⟨w, ws, F1', Fb, rfl, r, rMk.st tf (fun a ha => keep a ((f a).2 (.inr ha)) fun z => dj a z ha) r2, fun a z1 z2 => ?_, fun a => Iff.rfl⟩
        rcases n a z1 with z | z
        · exact dj a z z2
        · exact z ((f a).2 (.inr z2))
      · intro a z
        rcases z with z | z
        · exact .inr z
        · exact .inl ⟨(f a).2 (.inr z), fun y => dj a y z⟩
    · rw [if_neg hx] at e
      obtain ⟨v, F1, hv, rv, hs, q⟩ := rMk.zoom r2 e
      refine ⟨v, F1, by rw [valV_cons, if_neg hx]; exact hv, rv, fun a z => (f a).2 (.inr (hs a z)), fun m' H' F1' tf keep r n => ?_⟩
      obtain ⟨F2, r2', n2⟩ := q m' H' F1' tf (fun a z1 z2 => keep a ((f a).2 (.inr z1)) z2) r fun a z => (n a z).elim .inl fun y => .inr fun x => y ((f a).2 (.inr x))
      refine ⟨fun a => Fa a ∨ F2 a, ?_, ?_⟩
      · unfold updM
        rw [if_neg hx]
        unfold rMk
        refine ⟨w, ws, Fa, F2, rfl, rM.st tf (fun a ha => keep a ((f a).2 (.inl ha)) fun z => dj a ha (hs a z)) r1, r2', fun a z1 z2 => ?_, fun a => Iff.rfl⟩
        rcases n2 a z2 with z | z
        · exact dj a z1 z.1
        · rcases n a z with y | y
          · exact dj a z1 (hs a y)
          · exact y ((f a).2 (.inl z1))
      · intro a z
        rcases z with z | z
        · exact .inl ⟨(f a).2 (.inl z), fun y => dj a z (hs a y)⟩
        · exact (n2 a z).imp (fun y => ⟨(f a).2 (.inr y.1), y.2⟩) id
theorem rMs.zoom {m : M} : ∀ {ms : List M} {us : List V} {F : FS} {j : Nat}, rMs K ms us H F → ms[j]? = some m →
    ∃ v F1, us[j]? = some v ∧ rM K m v H F1 ∧ (∀ a, F1 a → F a) ∧ ∀ m' H' F1', TF H H' → (∀ a, F a → ¬ F1 a → H' a = H a) → rM K m' v H' F1' → (∀ a, F1' a → F1 a ∨ ¬ F a) →
      ∃ F', rMs K (ms.set j m') us H' F' ∧ ∀ a, F' a → (F a ∧ ¬ F1 a) ∨ F1' a
  | [], us, F, j, h, e => by simp at e
  | m0 :: ms, us, F, 0, h, e => by
    unfold rMs at h
    obtain ⟨w, ws, Fa, Fb, rfl, r1, r2, dj, f⟩ := h
    cases e
    refine ⟨w, Fa, rfl, r1, fun a z => (f a).2 (.inl z), fun m' H' F1' tf keep r n => ⟨fun a => F1' a ∨ Fb a, ?_, ?_⟩⟩
    · rw [List.set_cons_zero]
      unfold rMs
      refine ⟨w, ws, F1', Fb, rfl, r, rMs.st tf (fun a ha => keep a ((f a).2 (.inr ha)) fun z => dj a z ha) r2, fun a z1 z2 => ?_, fun a => Iff.rfl⟩
      rcases n a z1 with z | z
      · exact dj a z z2
      · exact z ((f a).2 (.inr z2))
    · intro a z
      rcases z with z | z
      · exact .inr z
      · exact .inl ⟨(f a).2 (.inr z), fun y => dj a y z⟩
  | m0 :: ms, us, F, j + 1, h, e => by
    unfold rMs at h
    obtain ⟨w, ws, Fa, Fb, rfl, r1, r2, dj, f⟩ := h
    obtain ⟨v, F1, hv, rv, hs, q⟩ := rMs.zoom (j := j) r2 (by simpa using e)
    refine ⟨v, F1, by simpa using hv, rv, fun a z => (f a).2 (.inr (hs a z)), fun m' H' F1' tf keep r n => ?_⟩
    obtain ⟨F2, r2', n2⟩ := q m' H' F1' tf (fun a z1 z2 => keep a ((f a).2 (.inr z1)) z2) r fun a z => (n a z).elim .inl fun y => .inr fun x => y ((f a).2 (.inr x))
    refine ⟨fun a => Fa a ∨ F2 a, ?_, ?_⟩
    · rw [List.set_cons_succ]
      unfold rMs
      refine ⟨w, ws, Fa, F2, rfl, rM.st tf (fun a ha => keep a ((f a).2 (.inl ha)) fun z => dj a ha (hs a z)) r1, r2', fun a z1 z2 => ?_, fun a => Iff.rfl⟩
      rcases n2 a z2 with z | z
      · exact dj a z1 z.1
      · rcases n a z with y | y
        · exact dj a z1 (hs a y)
        · exact y ((f a).2 (.inl z1))
    · intro a z
      rcases z with z | z
      · exact .inl ⟨(f a).2 (.inl z), fun y => dj a z (hs a y)⟩
      · exact (n2 a z).imp (fun y => ⟨(f a).2 (.inr y.1), y.2⟩) id
end

/-- a step into what a slot holds -/
inductive Sp1 where
  | k (k : Key) | i (n : Int)
def Sp1.d : Sp1 → D
  | .k (.inl n) => .int n
  | .k (.inr x) => .str x
  | .i n => .int n
def Sp1.v : Sp1 → V
  | .k x => kV x
  | .i n => .int n
theorem Sp1.rd {K : PySem.W.Frag} {H : Hp} {s : Sp1} {y : V} (h : rD K s.d y H) : y = s.v := by
  rcases s with (n | x) | n <;> (unfold Sp1.d rD at h; exact h)
/-- what lies there -/
def M.sub : M → Sp1 → Option M
  | .dk ks, .k k => getM ks k
  | .ll ms, .i n => atI ms n
  | .li ds, .i n => (atI ds n).map .im
  | _, _ => none
def setI {α : Type} (xs : List α) (n : Int) (x : α) : List α := match ixN xs.length n with
  | some j => xs.set j x
  | none => xs
/-- something else there, in its place -/
def M.chg : M → Sp1 → M → M
  | .dk ks, .k k, m => .dk (updM ks k m)
  | .ll ms, .i n, m => .ll (setI ms n m)
  | m, _, _ => m
def VS (H : Hp) (s : Sp1) (v u : V) : Prop := match s with
  | .k k => ∃ p kvs, v = .ref p ∧ H p = some (.dK kvs) ∧ valV kvs k = some u
  | .i n => ∃ p us, v = .ref p ∧ H p = some (.lst us) ∧ atI us n = some u
theorem rM.zoom {K : PySem.W.Frag} {H : Hp} {m m1 : M} {s : Sp1} {v : V} {F : FS} (h : rM K m v H F) (e : m.sub s = some m1) (nim : ∀ ds, m ≠ .li ds) :
    ∃ u F1, VS H s v u ∧ rM K m1 u H F1 ∧ (∀ a, F1 a → F a) ∧ ∀ m' H' F1', TF H H' → (∀ a, F a → ¬ F1 a → H' a = H a) → rM K m' u H' F1' → (∀ a, F1' a → F1 a ∨ ¬ F a) →
      ∃ F', rM K (m.chg s m') v H' F' ∧ ∀ a, F' a → (F a ∧ ¬ F1 a) ∨ F1' a := by
  cases m with
  | im d => cases e
  | dt w l => cases e
  | li ds => exact absurd rfl (nim ds)
  | ll ms =>
    cases s with
    | k k => cases e
    | i n =>
      unfold rM at h
      obtain ⟨a, us, F0, rfl, ho, r, hn, f⟩ := h
      have e : atI ms n = some m1 := e
      unfold atI at e
      cases q : ixN ms.length n with
      | none => rw [q] at e; cases e
      | some j =>
        rw [q] at e
        obtain ⟨u, F1, hu, ru, hs, z⟩ := r.zoom e
        refine ⟨u, F1, ⟨a, us, rfl, ho, by unfold atI; rw [r.len, q]; exact hu⟩, ru, fun b y => (f b).2 (.inr (hs b y)), fun m' H' F1' tf keep r' n' => ?_⟩
        obtain ⟨F2, r2, n2⟩ := z m' H' F1' tf (fun b y1 y2 => keep b ((f b).2 (.inr y1)) y2) r' fun b y => (n' b y).imp id fun y2 y3 => y2 ((f b).2 (.inr y3))
        have na : ¬ F2 a := fun y => by
          rcases n2 a y with y | y
          · exact hn y.1
          · rcases n' a y with y | y
            · exact hn (hs a y)
            · exact y ((f a).2 (.inl rfl))
        refine ⟨fun b => b = a ∨ F2 b, ?_, fun b y => ?_⟩
        · have e2 : setI ms n m' = ms.set j m' := by unfold setI; rw [q]
          show rM K (.ll (setI ms n m')) _ _ _
          rw [e2]
          unfold rM
          exact ⟨a, us, F2, rfl, (keep a ((f a).2 (.inl rfl)) fun y => hn (hs a y)).trans ho, r2, na, fun b => Iff.rfl⟩
        · rcases y with y | y
          · subst y; exact .inl ⟨(f b).2 (.inl rfl), fun y => hn (hs b y)⟩
          · exact (n2 b y).imp (fun y => ⟨(f b).2 (.inr y.1), y.2⟩) id
  | dk ks =>
    cases s with
    | i n => cases e
    | k k =>
      unfold rM at h
      obtain ⟨a, kvs, F0, rfl, ho, r, hn, f⟩ := h
      obtain ⟨u, F1, hu, ru, hs, z⟩ := r.zoom (show getM ks k = some m1 from e)
      refine ⟨u, F1, ⟨a, kvs, rfl, ho, hu⟩, ru, fun b y => (f b).2 (.inr (hs b y)), fun m' H' F1' tf keep r' n' => ?_⟩
      obtain ⟨F2, r2, n2⟩ := z m' H' F1' tf (fun b y1 y2 => keep b ((f b).2 (.inr y1)) y2) r' fun b y => (n' b y).imp id fun y2 y3 => y2 ((f b).2 (.inr y3))
      have na : ¬ F2 a := fun y => by
        rcases n2 a y with y | y
        · exact hn y.1
        · rcases n' a y with y | y
          · exact hn (hs a y)
          · exact y ((f a).2 (.inl rfl))
      refine ⟨fun b => b = a ∨ F2 b, ?_, fun b y => ?_⟩
      · show rM K (.dk (updM ks k m')) _ _ _
        unfold rM
        exact ⟨a, kvs, F2, rfl, (keep a ((f a).2 (.inl rfl)) fun y => hn (hs a y)).trans ho, r2, na, fun b => Iff.rfl⟩
      · rcases y with y | y
        · subst y; exact .inl ⟨(f b).2 (.inl rfl), fun y => hn (hs b y)⟩
        · exact (n2 b y).imp (fun y => ⟨(f b).2 (.inr y.1), y.2⟩) id

/-- how a subscription by the step reads -/
def SubR (X : Cx) (s : Sp1) (r : R2) : Prop := (∀ {a b : Expr} {pos : Pos} {ta tb : TE}, PE X a ta → PE X b tb → PlainIx b → PE X (.Subscript a b pos) (tOp r ta tb)) ∧ ∀ H v u Q, VS H s v u → Q u H → r v s.v H Q
def rDG : R2 := fun x y H Q => ∃ a v, x = .ref a ∧ DGet H a y (some v) ∧ Q v H
theorem sub_k {X : Cx} {k : Key} (hu : X.A.units + 64 < cLine) : SubR X (.k k) rDG := ⟨fun ha hb hs => pe_dget (by omega) ha hb hs, fun H v u Q ⟨p, kvs, e, ho, hv⟩ q => ⟨p, u, e, by rw [← hv]; exact DGet.k ho, q⟩⟩
section
variable {X : Cx} {C : Cn} {Γ Γ1 Γ2 Γ3 Γ' : Ctx} {Ts Hs : List T} {t t1 t2 t3 : T} {ts : List T} {e a b c nm : Expr} {es rest : List Expr} {pos p apos cpos : Pos} {i j : Nat} {d d1 d2 d3 : D} {ds ds' : List D} {m : M} {b1 b2 k : Bool} {s : Sp1} {r : R2}
theorem As.zoom {σ : L2.St} {vs : List V} {H : Hp} {m1 : M} (h : As C Γ Ts σ vs H) (hj : Γ[j]? = some (some m)) (e : m.sub s = some m1) : ∃ v u, σ[j]? = some (some v) ∧ VS H s v u ∧ (∃ F1, rM C.K m1 u H F1) := by
  obtain ⟨v, F, hv, r, _⟩ := h.slot hj
  by_cases z : ∃ ds, m = .li ds
  · obtain ⟨ds, rfl⟩ := z
    cases s with
    | k k => cases e
    | i n =>
      unfold rM at r
      obtain ⟨a, us, rfl, ho, rd, f⟩ := r
      have e : (atI ds n).map M.im = some m1 := e
      cases q : atI ds n with
      | none => rw [q] at e; cases e
      | some d =>
        rw [q] at e
        cases e
        obtain ⟨u, hu, ru⟩ := rd.at q
        exact ⟨_, u, hv, ⟨a, us, rfl, ho, hu⟩, e0, by unfold rM; exact ⟨ru, fun _ y => y⟩⟩
  · obtain ⟨u, F1, hu, ru, _⟩ := r.zoom e fun ds z2 => z ⟨ds, z2⟩
    exact ⟨v, u, hv, hu, F1, ru⟩
/-- the list within the slot j becomes another one -/
theorem As.zset {σ : L2.St} {vs : List V} {H : Hp} (h : As C Γ Ts σ vs H) (hj : Γ[j]? = some (some m)) (e : m.sub s = some (.li ds)) : ∃ v a us, σ[j]? = some (some v) ∧ VS H s v (.ref a) ∧ H a = some (.lst us) ∧ rDs C.K ds us H ∧
    ∀ us' ds', rDs C.K ds' us' H → As C (Γ.set j (some (m.chg s (.li ds')))) Ts σ vs (upd H a (.lst us')) := by
  obtain ⟨v, F, hv, r, q⟩ := h.slot hj
  have nim : ∀ l, m ≠ .li l := fun l z => by
    subst z
    cases s with
    | k k => cases e
    | i n =>
      have e : (atI l n).map M.im = some (.li ds) := e
      cases q : atI l n with
      | none => rw [q] at e; cases e
      | some d => rw [q] at e; cases e
  obtain ⟨u, F1, hu, ru, hs, z⟩ := r.zoom e nim
  have ru' := ru
  unfold rM at ru
  obtain ⟨a, us, rfl, ho, rd, f⟩ := ru
  refine ⟨v, a, us, hv, hu, ho, rd, fun us' ds' rd' => ?_⟩
  have mu : Mut (H a) := by rw [ho]; trivial
  have tf : TF H (upd H a (.lst us')) := TF.write mu
  obtain ⟨F', r', n'⟩ := z (.li ds') (upd H a (.lst us')) F1 tf (fun b _ nb => upd_ne fun y => nb ((f b).2 y)) (by
    unfold rM
    exact ⟨a, us', rfl, upd_same, rd'.tf tf, f⟩) fun b y => .inl y
  refine q _ _ F' tf (fun b nb _ => upd_ne fun y => nb (hs b ((f b).2 y))) r' fun b y => ?_
  rcases n' b y with y | y
  · exact .inl y.1
  · exact .inl (hs b y)
/-- x[k], a datum -/
theorem ee_at (j : Nat) (S : SubR X s r) (hn : PE X nm (tVar j)) (hj : Γ[j]? = some (some m)) (hb : EE X C Γ (Ts ++ [.al j]) b Γ (.im s.d)) (e : m.sub s = some (.im d)) (hs : PlainIx b := by exact fun _ _ => rfl) : EE X C Γ Ts (.Subscript nm b pos) Γ (.im d) :=
  op_wk (ee_al j hn hj) hb (fun σ vs x y H hA Q q => by
    have ey := Sp1.rd hA.topIm
    subst ey
    obtain ⟨F, ⟨hσ, _⟩, _⟩ := hA.pop.top
    obtain ⟨v, u, hv, hu, F1, ru⟩ := hA.pop.pop.zoom hj e
    rw [hσ] at hv
    cases hv
    unfold rM at ru
    exact S.2 H x u Q hu (q u H (hA.pop.pop.pushIm Ext.refl ru.1))) (S.1 (ee_al (C := C) (Γ := Γ) (Ts := Ts) j hn hj) hb hs)
/-- evaluation that leaves the heap as it is -/
def EQ (X : Cx) (C : Cn) (Γ : Ctx) (e : Expr) (d : D) : Prop := ∃ te, PE X e te ∧ ∀ σ H Ts vs (Q : VK), As C Γ Ts σ vs H → (∀ v, rD C.K d v H → Q v H) → te σ H Q
theorem eq_var (i : Nat) (h : PE X e (tVar i)) (hi : Γ[i]? = some (some (.im d)) := by rfl) : EQ X C Γ e d := ⟨_, h, fun σ H Ts vs Q hA q => by
  obtain ⟨v, hv, r⟩ := hA.slotIm hi
  exact ⟨v, hv, q v r⟩⟩
theorem eq_fdivW {n n' : Int} (hc : CDivW n n') (h1 : EQ X C Γ a (.int n)) (h2 : EQ X C Γ b (.int n')) : EQ X C Γ (.BinOp a .FloorDiv b pos) (.int (n / n')) := by
  obtain ⟨t1, p1, q1⟩ := h1
  obtain ⟨t2, p2, q2⟩ := h2
  refine ⟨_, pe_op op_fdivW p1 p2, fun σ H Ts vs Q hA q => q1 σ H Ts vs _ hA fun v r => q2 σ H Ts vs _ hA fun w r' => ?_⟩
  unfold rD at r r'
  exact ⟨n, n', r, r', hc, q _ (by unfold rD; rfl)⟩
/-- x[k] != [] -/
theorem et_neNilZ (hu : X.A.units + 64 < cLine) (j : Nat) (S : SubR X s r) (hn : PE X nm (tVar j)) (hj : Γ[j]? = some (some m)) (hb : EE X C Γ (Ts ++ [.al j]) b Γ (.im s.d)) (e : m.sub s = some (.li ds)) (ho : oks ds = true) {q1 : Pos} (hs : PlainIx b := by exact fun _ _ => rfl) (hK : X.K = C.K := by rfl) :
    ET X C Γ Ts (.Compare (.Subscript nm b p) [.NotEq] [.List [] q1] pos) Γ (!ds.isEmpty) :=
  (pt_cmpR (op_neB hu) (S.1 (ee_al (C := C) (Γ := Γ) (Ts := Ts) j hn hj) hb hs) (pe_lst pa_nil) (nomark _)).wk fun σ H Q ⟨vs, h, q⟩ => ⟨vs, h, fun v H1 h1 => ⟨vs ++ [v], h1, fun y H2 h2 => by
    have ey := Sp1.rd h2.topIm
    subst ey
    obtain ⟨F, ⟨hσ, _⟩, _⟩ := h2.pop.top
    obtain ⟨v', u, hv, hu', F1, ru⟩ := h2.pop.pop.zoom hj e
    rw [hσ] at hv
    cases hv
    unfold rM at ru
    obtain ⟨a, us, rfl, hl, rd, _⟩ := ru
    refine S.2 H2 v (.ref a) _ hu' ⟨Nat.zero_le _, fun w hw => ⟨_, _, ?_, ?_, by unfold PyData.canLay0; exact oks_lay ho, ?_, dep_nil (.list (ps ds)), ⟨_, rfl, ?_⟩⟩⟩
    · exact .l ho (SqL.of ((upd_ne fun z => by subst z; rw [hl] at hw; cases hw).trans hl)) (by rw [hK]; exact rd.tf (Ext.new hw).tf)
    · exact .l (l := []) (by unfold oks; rfl) (SqL.of upd_same) (by unfold rDs; rfl)
    · unfold ps PyData.canLay0 PyData.canLayAll0; rfl
    · rw [eqv_nil]
      exact q _ (h2.pop.pop.ext (Ext.new hw))⟩⟩
/-- x[k].pop() -/
theorem ee_popZ (j : Nat) (S : SubR X s r) (hn : PE X nm (tVar j)) (hj : Γ[j]? = some (some m)) (hb : EE X C Γ (Ts ++ [.al j]) b Γ (.im s.d)) (e : m.sub s = some (.li ds)) (hd : ds.getLast? = some d) (hs : PlainIx b := by exact fun _ _ => rfl)
    (hbase : attributeBase (.Subscript nm b p) "pop" X.env (eval (.Subscript nm b p) X.env) = eval (.Subscript nm b p) X.env := by rfl) (hline : (apos.endLine == cpos.line) = true := by rfl) :
    EE X C Γ Ts (.Call (.Attribute (.Subscript nm b p) "pop" apos) [] [] cpos) (Γ.set j (some (m.chg s (.li ds.dropLast)))) (.im d) := by
  refine (pe_bm0 PySem.F.plainAttrs_list PySem.F.slot_list_pop PySem.F.type_list_pop mt_pop (S.1 (ee_al (C := C) (Γ := Γ) (Ts := Ts) j hn hj) hb hs) hbase hline).wk fun σ H Q ⟨vs, h, q⟩ => ⟨vs, h, fun v H1 h1 => ⟨vs ++ [v], h1, fun y H2 h2 => ?_⟩⟩
  have ey := Sp1.rd h2.topIm
  subst ey
  obtain ⟨F, ⟨hσ, _⟩, _⟩ := h2.pop.top
  obtain ⟨v', a, us, hv, hz, hl, rd, put⟩ := h2.pop.pop.zset hj e
  rw [hσ] at hv
  cases hv
  refine S.2 H2 v (.ref a) _ hz ?_
  have hd' : ds[ds.length - 1]? = some d := by rw [← List.getLast?_eq_getElem?]; exact hd
  obtain ⟨u, hu, ru⟩ := rd.get hd'
  have rdl : rDs C.K ds.dropLast us.dropLast H2 := by
    rw [List.dropLast_eq_take, List.dropLast_eq_take, rd.len]
    exact rd.take _
  refine ⟨tyV_lst hl, a, us, u, rfl, rfl, hl, by rw [rd.len]; exact hu, q _ _ ((put _ _ rdl).pushIm Ext.refl (ru.tf (TF.write ?_)))⟩
  rw [hl]
  trivial
/-- x[k].append(e), e leaving the heap as it is -/
theorem ee_appZ (j : Nat) (S : SubR X s r) (hn : PE X nm (tVar j)) (hj : Γ[j]? = some (some m)) (hb : EE X C Γ (Ts ++ [.al j]) b Γ (.im s.d)) (e1 : m.sub s = some (.li ds)) (he : EQ X C Γ e d) (hlen : ds.length < sizeLine) (hs : PlainIx b := by exact fun _ _ => rfl)
    (hbase : attributeBase (.Subscript nm b p) "append" X.env (eval (.Subscript nm b p) X.env) = eval (.Subscript nm b p) X.env := by rfl)
    (hfew : ((backTo cpos (starEach [e] X.env)).all (fun x => !x.1) && (backToKw cpos (keywordEach [] X.env)).all (fun x => x.1.isSome)
      && decide ([e].length + ([] : List Keyword).length + (if ([] : List Keyword).isEmpty then 0 else 1) < 30)) = true := by rfl)
    (hline : (apos.endLine == cpos.line) = true := by rfl) (hst : starEach [e] X.env = (false, eval e X.env) :: starEach [] X.env := by rfl) (hplain : (backTo cpos (starEach [] X.env)).any (·.1) = false := by rfl) :
    EE X C Γ Ts (.Call (.Attribute (.Subscript nm b p) "append" apos) [e] [] cpos) (Γ.set j (some (m.chg s (.li (ds ++ [d]))))) (.im .non) := by
  obtain ⟨te, pe, hte⟩ := he
  refine (pe_bm PySem.F.plainAttrs_list PySem.F.slot_list_append PySem.F.type_list_append mt_append (S.1 (ee_al (C := C) (Γ := Γ) (Ts := Ts) j hn hj) hb hs) (pa_cons pe pa_nil hst) hbase hfew hline hst hplain).wk fun σ H Q ⟨vs, h, q⟩ => ⟨vs, h, fun v H1 h1 => ⟨vs ++ [v], h1, fun y H2 h2 => ?_⟩⟩
  have ey := Sp1.rd h2.topIm
  subst ey
  obtain ⟨F, ⟨hσ, _⟩, _⟩ := h2.pop.top
  obtain ⟨v', a, us, hv, hz, hl, rd, put⟩ := h2.pop.pop.zset hj e1
  rw [hσ] at hv
  cases hv
  refine S.2 H2 v (.ref a) _ hz ⟨tyV_lst hl, hte σ H2 Ts vs _ h2.pop.pop fun u ru => ?_⟩
  exact ⟨a, us, u, rfl, rfl, hl, by rw [rd.len]; exact hlen, q _ _ ((put _ _ (rd.app (.one ru))).pushIm Ext.refl (by unfold rD; rfl))⟩
end

/-! ### a datum is stored at a key -/
def putM (ks : List (Key × M)) (k : Key) (m : M) : List (Key × M) := if (getM ks k).isSome then ks.map fun kv => if kv.1 = k then (kv.1, m) else kv else ks ++ [(k, m)]
theorem getM_val {K : PySem.W.Frag} {H : Hp} {k : Key} : ∀ {ks : List (Key × M)} {kvs : List (Key × V)} {F : FS}, rMk K ks kvs H F → (valV kvs k).isSome = (getM ks k).isSome
  | [], kvs, F, h => by unfold rMk at h; rw [h.1] <;> rfl
  | (x, m) :: ks, kvs, F, h => by
    unfold rMk at h
    obtain ⟨w, ws, _, _, rfl, _, r2, _, _⟩ := h
    rw [valV_cons]
    unfold getM
    by_cases hx : x = k
    · rw [if_pos hx, if_pos hx] <;> rfl
    · rw [if_neg hx, if_neg hx]
      exact getM_val r2
theorem rMk.len {K : PySem.W.Frag} {H : Hp} : ∀ {ks : List (Key × M)} {kvs : List (Key × V)} {F : FS}, rMk K ks kvs H F → kvs.length = ks.length
  | [], kvs, F, h => by unfold rMk at h; rw [h.1] <;> rfl
  | (x, m) :: ks, kvs, F, h => by
    unfold rMk at h
    obtain ⟨w, ws, _, _, rfl, _, r2, _, _⟩ := h
    rw [List.length_cons, List.length_cons, r2.len]
theorem rMk.map {K : PySem.W.Frag} {H : Hp} {k : Key} {d : D} {v : V} (r : rD K d v H) : ∀ {ks : List (Key × M)} {kvs : List (Key × V)} {F : FS}, rMk K ks kvs H F →
    ∃ F', rMk K (ks.map fun kv => if kv.1 = k then (kv.1, .im d) else kv) (kvs.map fun kv => if kv.1 = k then (kv.1, v) else kv) H F' ∧ ∀ a, F' a → F a
  | [], kvs, F, h => by
    unfold rMk at h
    rw [h.1]
    exact ⟨e0, by unfold rMk; exact ⟨rfl, fun _ z => z⟩, fun a z => z.elim⟩
  | (x, m) :: ks, kvs, F, h => by
    unfold rMk at h
    obtain ⟨w, ws, Fa, Fb, rfl, r1, r2, dj, f⟩ := h
    obtain ⟨F2, r2', n2⟩ := rMk.map r r2
    rw [List.map_cons, List.map_cons]
    by_cases hx : x = k
    · rw [if_pos hx, if_pos hx]
      refine ⟨F2, ?_, fun a z => (f a).2 (.inr (n2 a z))⟩
      unfold rMk
      exact ⟨v, _, e0, F2, rfl, by unfold rM; exact ⟨r, fun _ z => z⟩, r2', Dj.e0l, fun a => ⟨.inr, fun z => z.elim (fun y => y.elim) id⟩⟩
    · rw [if_neg hx, if_neg hx]
      refine ⟨fun a => Fa a ∨ F2 a, ?_, fun a z => z.elim (fun y => (f a).2 (.inl y)) fun y => (f a).2 (.inr (n2 a y))⟩
      unfold rMk
      exact ⟨w, _, Fa, F2, rfl, r1, r2', fun a y1 y2 => dj a y1 (n2 a y2), fun a => Iff.rfl⟩
theorem rMk.snoc {K : PySem.W.Frag} {H : Hp} {k : Key} {m : M} {v : V} {G : FS} (r : rM K m v H G) : ∀ {ks : List (Key × M)} {kvs : List (Key × V)} {F : FS}, rMk K ks kvs H F → Dj F G →
    rMk K (ks ++ [(k, m)]) (kvs ++ [(k, v)]) H (fun a => F a ∨ G a)
  | [], kvs, F, h, dj => by
    unfold rMk at h
    rw [h.1]
    show rMk K [(k, m)] [(k, v)] H _
    unfold rMk
    exact ⟨v, [], G, e0, rfl, r, by unfold rMk; exact ⟨rfl, fun _ z => z⟩, Dj.e0r, fun a => ⟨fun z => z.elim (fun y => absurd y (h.2 a)) .inl, fun z => z.elim .inr fun y => y.elim⟩⟩
  | (x, m0) :: ks, kvs, F, h, dj => by
    unfold rMk at h
    obtain ⟨w, ws, Fa, Fb, rfl, r1, r2, dj0, f⟩ := h
    have ih := rMk.snoc (k := k) r r2 fun a y1 y2 => dj a ((f a).2 (.inr y1)) y2
    show rMk K ((x, m0) :: (ks ++ [(k, m)])) ((x, w) :: (ws ++ [(k, v)])) H _
    unfold rMk
    refine ⟨w, _, Fa, _, rfl, r1, ih, fun a y1 y2 => y2.elim (dj0 a y1) (dj a ((f a).2 (.inl y1))), fun a => ⟨fun z => ?_, fun z => ?_⟩⟩
    · rcases z with z | z
      · exact ((f a).1 z).imp id .inl
      · exact .inr (.inr z)
    · rcases z with z | z | z
      · exact .inl ((f a).2 (.inl z))
      · exact .inl ((f a).2 (.inr z))
      · exact .inr z
section
variable {X : Cx} {C : Cn} {Γ Γ1 Γ2 Γ3 Γ' : Ctx} {Ts Hs : List T} {e a b c nm : Expr} {pos p : Pos} {i j : Nat} {d : D} {m : M} {ks : List (Key × M)} {x : Key}
/-- x[k] = e, e a datum -/
theorem s_putD (hu : X.A.units + 64 < cLine) (j : Nat) (hn : PE X nm (tVar j)) (he : EE X C Γ Hs e Γ1 (.im d)) (hj : Γ1[j]? = some (some (.dk ks))) (hb : EE X C Γ1 (Hs ++ [.im d] ++ [.al j]) b Γ1 (.im (Sp1.k x).d)) (hl : ks.length < sizeLine) {p' : Pos}
    (hs : swapsWith e (some (.Subscript nm b p')) pos.line X.env = pure false := by rfl) : S1 X C Hs Γ (.Assign [.Subscript nm b p'] e pos) (.nx (Γ1.set j (some (.dk (putM ks x (.im d)))))) :=
  (ps_dput (by omega) (ee_al (C := C) (Γ := Γ1) (Ts := Hs ++ [.im d]) j hn hj) hb he hs).wk fun σ H D ⟨⟨hs, h⟩, q⟩ => ⟨hs, h, fun v H1 h1 => ⟨hs ++ [v], h1, fun y H2 h2 => ⟨_, h2, fun z H3 h3 => by
    have ez := Sp1.rd h3.topIm
    subst ez
    obtain ⟨F, ⟨hσ, _⟩, _⟩ := h3.pop.top
    have rv := h3.pop.pop.topIm
    have hA := h3.pop.pop.pop
    obtain ⟨w, F1, hw, r, chg⟩ := hA.slot hj
    rw [hσ] at hw
    cases hw
    unfold rM at r
    obtain ⟨a, kvs, F0, rfl, ho, rk, hn0, f⟩ := r
    refine ⟨a, _, rfl, DPut.k (k := x) ho (by rw [rk.len]; exact hl), q σ hs _ ?_⟩
    have mu : Mut (H3 a) := by rw [ho]; trivial
    have tf : TF H3 (upd H3 a (.dK (putK kvs x v))) := TF.write mu
    have put : ∃ F', rMk C.K (putM ks x (.im d)) (putK kvs x v) H3 F' ∧ ∀ b, F' b → F0 b := by
      unfold putM putK
      rw [← getM_val (k := x) rk, ← valV_any]
      by_cases z : (kvs.any fun kv => decide (kv.1 = x)) = true
      · rw [if_pos z, if_pos z]
        exact rk.map rv
      · rw [if_neg z, if_neg z]
        exact ⟨_, rMk.snoc (G := e0) (by unfold rM; exact ⟨rv, fun _ y => y⟩) rk Dj.e0r, fun b y => y.elim id fun y => y.elim⟩
    obtain ⟨F', rp, n'⟩ := put
    refine chg _ _ (fun b => b = a ∨ F' b) tf (fun b nb _ => upd_ne fun y => nb ((f b).2 (.inl y))) ?_ fun b y => .inl ((f b).2 (y.imp id (n' b)))
    unfold rM
    exact ⟨a, _, F', rfl, upd_same, rMk.st tf (fun b y => upd_ne fun y2 => hn0 (n' a (y2 ▸ y))) rp, fun y => hn0 (n' a y), fun b => Iff.rfl⟩⟩⟩⟩
end
end RL

set_option maxHeartbeats 2000000
/-! RL14: displays of dicts and of lists of what may change -/
namespace RL
open PySem L2

theorem mergeK_nodup : ∀ {kvs acc : List (Key × V)}, (kvs.map (·.1)).Nodup → (∀ k ∈ kvs.map (·.1), valV acc k = none) → mergeK acc kvs = acc ++ kvs
  | [], acc, _, _ => by simp [mergeK]
  | (k, v) :: kvs, acc, h, g => by
    rw [List.map_cons, List.nodup_cons] at h
    have h0 : valV acc k = none := g k (by simp)
    show mergeK (putK acc k v) kvs = _
    rw [putK_new v h0, mergeK_nodup h.2]
    · simp
    · intro x hx
      have ne : x ≠ k := fun e => h.1 (e ▸ hx)
      rw [valV_snoc k x v acc h0, if_neg ne]
      exact g x (by simp [hx])
section
variable {K : PySem.W.Frag} {H : Hp}
theorem rMk.of : ∀ {kn : List Key} {ms : List M} {us : List V} {F : FS}, rMs K ms us H F → kn.length = ms.length → rMk K (kn.zip ms) (kn.zip us) H F
  | [], [], us, F, h, _ => by
    unfold rMs at h
    show rMk K [] [] H F
    unfold rMk
    exact ⟨rfl, h.2⟩
  | k :: kn, [], us, F, h, e => by simp at e
  | [], m :: ms, us, F, h, e => by simp at e
  | k :: kn, m :: ms, us, F, h, e => by
    unfold rMs at h
    obtain ⟨w, ws, Fa, Fb, rfl, r1, r2, dj, f⟩ := h
    show rMk K ((k, m) :: kn.zip ms) ((k, w) :: kn.zip ws) H F
    unfold rMk
    exact ⟨w, _, Fa, Fb, rfl, r1, rMk.of r2 (by simpa using e), dj, f⟩
end
section
variable {X : Cx} {C : Cn} {Γ Γ1 Γ2 Γ3 Γ' : Ctx} {Ts Hs : List T} {e a b c nm : Expr} {es : List Expr} {pos p : Pos} {i j : Nat} {d : D} {m : M} {ms : List M} {kn : List Key} {keys : List (Option Expr)} {vals : List Expr}
theorem blob_own {σ : L2.St} {vs us : List V} {H : Hp} (h : As C Γ (Ts ++ ms.map T.own) σ (vs ++ us) H) (hl : us.length = ms.length) : ∃ fp G, AsB C Γ Ts σ vs ms us H fp G := by
  obtain ⟨fp, G, B, _⟩ := As.blob (ts := ms.map T.own) (ms := ms) (by simp [T.mo, Function.comp_def]) (by simpa using hl) h
  exact ⟨fp, G, B⟩
/-- the pairs of a display -/
def EPs (X : Cx) (C : Cn) (pos : Pos) (Γ : Ctx) (Ts : List T) (keys : List (Option Expr)) (vals : List Expr) (Γ' : Ctx) (kn : List Key) (ms : List M) : Prop :=
  ∃ trs : List (TE × TE), PPs X pos keys vals trs ∧ keys.length = kn.length ∧ vals.length = kn.length ∧ ms.length = kn.length ∧ keys.all (·.isSome) = true ∧
    ∀ σ H vs (Q : List (V × V) → Hp → Prop), As C Γ Ts σ vs H → (∀ us H', us.length = kn.length → As C Γ' (Ts ++ ms.map T.own) σ (vs ++ us) H' → Q ((kn.zip us).map fun kv => (kV kv.1, kv.2)) H') → tPairs trs σ H Q
theorem eps_nil : EPs X C pos Γ Ts [] [] Γ [] [] := ⟨[], pps_nil, rfl, rfl, rfl, rfl, fun σ H vs Q h q => q [] H rfl (by simpa using h)⟩
theorem eps_cons {k : Key} {ke : Expr} (hk : EE X C Γ Ts ke Γ (.im (Sp1.k k).d)) (hv : EE X C Γ Ts e Γ1 (.own m)) (hr : EPs X C pos Γ1 (Ts ++ [.own m]) keys vals Γ2 kn ms) : EPs X C pos Γ Ts (some ke :: keys) (e :: vals) Γ2 (k :: kn) (m :: ms) := by
  obtain ⟨trs, h, lk, lv, lm, all, w⟩ := hr
  refine ⟨_, pps_cons hk hv h, by simp [lk], by simp [lv], by simp [lm], by simpa using all, fun σ H vs Q h q => ?_⟩
  refine ⟨vs, h, fun x H1 h1 => ?_⟩
  have ex := Sp1.rd h1.topIm
  subst ex
  refine ⟨vs, h1.pop, fun y H2 h2 => w σ H2 (vs ++ [y]) _ h2 fun us H3 hl h3 => ?_⟩
  exact q (y :: us) H3 (by simp [hl]) (by simpa using h3)
/-- {k: e, ..} -/
theorem ee_dsp (h : EPs X C pos Γ (Ts ++ [.own (.dk [])]) keys vals Γ1 kn ms) (h0 : keys ≠ []) (h15 : kn.length ≤ 15) (hd : kn.Nodup) : EE X C Γ Ts (.Dict keys vals pos) Γ1 (.own (.dk (kn.zip ms))) := by
  obtain ⟨trs, hp, lk, lv, lm, all, w⟩ := h
  refine (pe_disp hp all (lk.trans lv.symm) h0 (by omega)).wk fun σ H Q ⟨vs, h, q⟩ => fun p hp => ?_
  have h1 : As C Γ (Ts ++ [.own (.dk [])]) σ (vs ++ [.ref p]) (upd H p (.dK [])) := h.push (Ext.new hp) (t := .own (.dk [])) (F := fun a => a = p) (by
    show rM _ _ _ _ _
    unfold rM
    exact ⟨p, [], e0, rfl, upd_same, by unfold rMk; exact ⟨rfl, fun _ z => z⟩, fun z => z, fun b => ⟨.inl, fun z => z.elim id fun y => y.elim⟩⟩) (fun a e => by rw [e]; exact hp) fun a e => by rw [e, upd_same]; trivial
  refine w σ _ _ _ h1 fun us H2 hl h2 => ?_
  have h3 : As C Γ1 (Ts ++ (M.dk [] :: ms).map T.own) σ (vs ++ (.ref p :: us)) H2 := by simpa using h2
  obtain ⟨fp, G, B⟩ := blob_own h3 (by simp [hl, lm])
  have r := B.r
  unfold rMs at r
  obtain ⟨w1, ws, F1, F2, ee, r1, r2, dj, f⟩ := r
  cases ee
  unfold rM at r1
  obtain ⟨a, kvs0, F0, ea, ho, rk0, hn0, f0⟩ := r1
  cases ea
  unfold rMk at rk0
  obtain ⟨rfl, nf0⟩ := rk0
  have hF1 : F1 p := (f0 p).2 (.inl rfl)
  have mu : Mut (H2 p) := by rw [ho]; trivial
  have tf : TF H2 (upd H2 p (.dK (kn.zip us))) := TF.write mu
  have nd : ((kn.zip us).map (·.1)) = kn := by
    rw [List.map_fst_zip]
    omega
  refine ⟨ho, kn.zip us, rfl, by rw [List.length_zip]; omega, ?_⟩
  rw [mergeK_nodup (by rw [nd]; exact hd) fun _ _ => valV_nil, List.nil_append]
  have B2 := B.chg (H' := upd H2 p (.dK (kn.zip us))) (G' := G) (ms' := [.dk (kn.zip ms)]) (us' := [.ref p]) (fun a o e ng => (upd_ne fun z => ng (by subst z; exact (f a).2 (.inl hF1))).trans e) (by
    unfold rMs
    refine ⟨_, [], G, e0, rfl, ?_, by unfold rMs; exact ⟨rfl, fun _ z => z⟩, Dj.e0r, fun a => ⟨.inl, fun z => z.elim id fun y => y.elim⟩⟩
    unfold rM
    refine ⟨p, _, F2, rfl, upd_same, rMk.st tf (fun b y => upd_ne fun z => dj p hF1 (z ▸ y)) (rMk.of r2 lm.symm), fun y => dj p hF1 y, fun b => ⟨fun y => ?_, fun y => ?_⟩⟩
    · rcases (f b).1 y with y | y
      · exact .inl (((f0 b).1 y).elim id fun z => absurd z (nf0 b))
      · exact .inr y
    · rcases y with y | y
      · subst y; exact (f b).2 (.inl hF1)
      · exact (f b).2 (.inr y)) fun a y => .inl y
  obtain ⟨fq, G2, B3⟩ := B2.uncons
  exact q _ _ B3.as
end
end RL

set_option maxHeartbeats 2000000
/-! RL15: locking a list, rules over typed data, guards of mirrors -/
namespace RL
open PySem L2

theorem bsplit {α β : Type} {o : Option α} {f : α → Option β} {r : β} (h : o.bind f = some r) : ∃ a, o = some a ∧ f a = some r := Option.bind_eq_some_iff.mp h
def gd (c : Bool) : Option Unit := if c = true then some () else none
theorem gd_t {c : Bool} {u : Unit} (h : gd c = some u) : c = true := by
  unfold gd at h
  by_cases e : c = true
  · exact e
  · rw [if_neg e] at h; cases h
theorem gd_d {p : Prop} [Decidable p] {u : Unit} (h : gd (decide p) = some u) : p := of_decide_eq_true (gd_t h)
theorem gd_ok {c : Bool} (h : c = true) : gd c = some () := if_pos h
instance {i j : Int} : Decidable (CMul i j) := by unfold CMul; infer_instance
instance {i j : Int} : Decidable (CDivW i j) := by unfold CDivW; infer_instance

/-! ### a thing is locked -/
theorem pe_lock {X : Cx} {e : Expr} {te : TE} (h : PE X e te) : PE X e (fun σ H Q => te σ H fun v H1 => ∃ a u, v = .ref a ∧ H1 a = some u ∧ Mut (some u) ∧ ∀ od, Q v (upd H1 a (.frz od u))) := ⟨fun pins s σ H Q I q =>
  wpAny_mono (h.run pins s σ H _ I q) (fun w s' ⟨v, H1, I1, r, a, u, e1, e2, mu, k⟩ => by
    obtain ⟨od, I2⟩ := I1.lock e2 mu
    exact ⟨v, _, I2, r, k od⟩) fun _ _ z => z⟩
section
variable {X : Cx} {C : Cn} {Γ Γ1 Γ2 Γ3 Γ' : Ctx} {Ts Hs : List T} {t t1 t2 t3 : T} {ts : List T} {e a b c tg iter : Expr} {es rest : List Expr} {pos p p2 nm apos cpos : Pos} {nme : Expr} {i j : Nat} {d d1 d2 d3 : D} {ds ds' : List D} {m : M} {b1 b2 k : Bool} {α β : Type} {enc : α → D} {xs ys : List α} {x y : α}
theorem ee_lock (h : EE X C Γ Ts e Γ1 (.own (.li ds))) : EE X C Γ Ts e Γ1 (.im (.lst ds)) := (pe_lock h).wk fun σ H Q ⟨vs, h, q⟩ => ⟨vs, h, fun v H1 h1 => by
  obtain ⟨F, r, up⟩ := h1.top
  have r : rM C.K (.li ds) v H1 F := r
  unfold rM at r
  obtain ⟨a, us, rfl, hl, rd, hF⟩ := r
  have mu : Mut (some (HO.lst us)) := trivial
  refine ⟨a, _, rfl, hl, mu, fun od => q _ _ ?_⟩
  have tf : TF H1 (upd H1 a (.frz od (.lst us))) := TF.write (by rw [hl]; exact mu)
  refine up (.im (.lst ds)) _ _ e0 tf (fun b nb _ => upd_ne fun z => nb ((hF b).2 z)) ?_ (fun b z => z.elim) fun b z => z.elim
  show rM _ _ _ _ _
  unfold rM
  refine ⟨?_, fun _ z => z⟩
  unfold rD
  exact ⟨a, us, rfl, .inl ⟨od, upd_same⟩, rd.tf tf⟩⟩
/-! ### typed lists -/
theorem ee_appendE (j : Nat) (hn : PE X nme (tVar j)) (hj : Γ[j]? = some (some (.li ds'))) (h1 : EE X C Γ (Ts ++ [.al j]) e Γ1 (.im (enc x))) (hj1 : Γ1[j]? = some (some (.li (xs.map enc)))) (hl : xs.length < sizeLine)
    (hbase : attributeBase nme "append" X.env (eval nme X.env) = eval nme X.env := by rfl)
    (hfew : ((backTo cpos (starEach [e] X.env)).all (fun x => !x.1) && (backToKw cpos (keywordEach [] X.env)).all (fun x => x.1.isSome)
      && decide ([e].length + ([] : List Keyword).length + (if ([] : List Keyword).isEmpty then 0 else 1) < 30)) = true := by rfl)
    (hline : (apos.endLine == cpos.line) = true := by rfl) (hs : starEach [e] X.env = (false, eval e X.env) :: starEach [] X.env := by rfl) (hplain : (backTo cpos (starEach [] X.env)).any (·.1) = false := by rfl) :
    EE X C Γ Ts (.Call (.Attribute nme "append" apos) [e] [] cpos) (Γ1.set j (some (.li ((xs ++ [x]).map enc)))) (.im .non) := by
  rw [List.map_append]
  exact ee_append j hn hj h1 hj1 (by rw [List.length_map]; exact hl) hbase hfew hline hs hplain
theorem ee_popE (j : Nat) (hn : PE X nme (tVar j)) (hj : Γ[j]? = some (some (.li (xs.map enc)))) (hd : xs.getLast? = some x)
    (hbase : attributeBase nme "pop" X.env (eval nme X.env) = eval nme X.env := by rfl) (hline : (apos.endLine == cpos.line) = true := by rfl) :
    EE X C Γ Ts (.Call (.Attribute nme "pop" apos) [] [] cpos) (Γ.set j (some (.li (xs.dropLast.map enc)))) (.im (enc x)) := by
  rw [List.map_dropLast]
  exact ee_pop j hn hj (by rw [List.getLast?_map, hd] <;> rfl) hbase hline
theorem ee_extendE (j : Nat) (hn : PE X nme (tVar j)) (hj : Γ[j]? = some (some (.li ds'))) (h1 : EE X C Γ (Ts ++ [.al j]) e Γ1 t) (hj1 : Γ1[j]? = some (some (.li (xs.map enc)))) (s : SrcS Γ1 t (ys.map enc)) (hl : xs.length + ys.length ≤ sizeLine)
    (hbase : attributeBase nme "extend" X.env (eval nme X.env) = eval nme X.env := by rfl)
    (hfew : ((backTo cpos (starEach [e] X.env)).all (fun x => !x.1) && (backToKw cpos (keywordEach [] X.env)).all (fun x => x.1.isSome)
      && decide ([e].length + ([] : List Keyword).length + (if ([] : List Keyword).isEmpty then 0 else 1) < 30)) = true := by rfl)
    (hline : (apos.endLine == cpos.line) = true := by rfl) (hs : starEach [e] X.env = (false, eval e X.env) :: starEach [] X.env := by rfl) (hplain : (backTo cpos (starEach [] X.env)).any (·.1) = false := by rfl) :
    EE X C Γ Ts (.Call (.Attribute nme "extend" apos) [e] [] cpos) (Γ1.set j (some (.li ((xs ++ ys).map enc)))) (.im .non) := by
  rw [List.map_append]
  exact ee_extend j hn hj h1 hj1 s (by rw [List.length_map, List.length_map]; exact hl) hbase hfew hline hs hplain
theorem atI_map {f : α → β} {n : Int} (h : atI xs n = some x) : atI (xs.map f) n = some (f x) := by
  unfold atI at h ⊢
  rw [List.length_map]
  cases q : ixN xs.length n with
  | none => rw [q] at h; cases h
  | some j =>
    rw [q] at h
    have h : xs[j]? = some x := h
    show (xs.map f)[j]? = _
    rw [List.getElem?_map, h] <;> rfl
theorem ee_ixLE {n : Int} (h1 : EE X C Γ Ts a Γ1 t) (h2 : EE X C Γ1 (Ts ++ [t]) b Γ2 (.im (.int n))) (s : Src Γ2 t (xs.map enc)) (h : atI xs n = some x) (hs : PlainIx b := by exact fun _ _ => rfl) (hK : X.K = C.K := by rfl) : EE X C Γ Ts (.Subscript a b pos) Γ2 (.im (enc x)) := ee_ixL h1 h2 s (atI_map h) hs hK
theorem ee_ixTE {n : Int} (h1 : EE X C Γ Ts a Γ1 (.im (.tup (xs.map enc)))) (h2 : EE X C Γ1 (Ts ++ [.im (.tup (xs.map enc))]) b Γ2 (.im (.int n))) (h : atI xs n = some x) (hs : PlainIx b := by exact fun _ _ => rfl) (hK : X.K = C.K := by rfl) : EE X C Γ Ts (.Subscript a b pos) Γ2 (.im (enc x)) := ee_ixT h1 h2 (atI_map h) hs hK
theorem ee_slLE {lo hi : Option Expr} {l u : Option Int} (h1 : EE X C Γ Ts a Γ1 t) (h2 : EP X C Γ1 (Ts ++ [t]) lo Γ2 l) (h3 : EP X C Γ2 (Ts ++ [t]) hi Γ3 u) (s : Src Γ3 t (xs.map enc)) (hK : X.K = C.K := by rfl) : EE X C Γ Ts (.Subscript a (.Slice lo hi none p2) pos) Γ3 (.own (.li ((cutL xs l u).map enc))) := by
  rw [← cutL_map]
  exact ee_slL h1 h2 h3 s hK
theorem ee_slTE {lo hi : Option Expr} {l u : Option Int} (h1 : EE X C Γ Ts a Γ1 (.im (.tup (xs.map enc)))) (h2 : EP X C Γ1 (Ts ++ [.im (.tup (xs.map enc))]) lo Γ2 l) (h3 : EP X C Γ2 (Ts ++ [.im (.tup (xs.map enc))]) hi Γ3 u) (hK : X.K = C.K := by rfl) : EE X C Γ Ts (.Subscript a (.Slice lo hi none p2) pos) Γ3 (.im (.tup ((cutL xs l u).map enc))) := by
  rw [← cutL_map]
  exact ee_slT h1 h2 h3 hK
theorem ee_revLE {q1 q2 q3 : Pos} {kk : Nat} (h1 : EE X C Γ Ts a Γ1 t) (s : Src Γ1 t (xs.map enc)) (hK : X.K = C.K := by rfl) : EE X C Γ Ts (.Subscript a (.Slice none none (some (.UnaryOp .USub (.Constant (.int 1) kk q1) q2)) q3) pos) Γ1 (.own (.li (xs.reverse.map enc))) := by
  rw [List.map_reverse]
  exact ee_revL h1 s hK
theorem ee_catE (h1 : EE X C Γ Ts a Γ1 t1) (h2 : EE X C Γ1 (Ts ++ [t1]) b Γ2 t2) (s1 : SrcS Γ2 t1 (xs.map enc)) (s2 : SrcS Γ2 t2 (ys.map enc)) (hl : xs.length + ys.length ≤ sizeLine) : EE X C Γ Ts (.BinOp a .Add b pos) Γ2 (.own (.li ((xs ++ ys).map enc))) := by
  rw [List.map_append]
  exact ee_cat h1 h2 s1 s2 (by rw [List.length_map, List.length_map]; exact hl)
theorem ee_catTE (h1 : EE X C Γ Ts a Γ1 (.im (.tup (xs.map enc)))) (h2 : EE X C Γ1 (Ts ++ [.im (.tup (xs.map enc))]) b Γ2 (.im (.tup (ys.map enc)))) (hl : xs.length + ys.length ≤ sizeLine) (hK : X.K = C.K := by rfl) : EE X C Γ Ts (.BinOp a .Add b pos) Γ2 (.im (.tup ((xs ++ ys).map enc))) := by
  rw [List.map_append]
  exact ee_catT h1 h2 (by rw [List.length_map, List.length_map]; exact hl) hK
theorem ee_lenLE (hm : X.mg "len" = none) (h : EE X C Γ Ts e Γ1 t) (s : Src Γ1 t (xs.map enc)) (hg : Gl X "len" := by rfl) (hK : X.K = C.K := by rfl) (he : starEach [e] X.env = (false, eval e X.env) :: starEach [] X.env := by rfl) (hpl : (backTo pos (starEach [] X.env)).any (·.1) = false := by rfl) : EE X C Γ Ts (.Call (.Name "len" nm) [e] [] pos) Γ1 (.im (.int xs.length)) := by
  have z := ee_lenL (nm := nm) (pos := pos) hm h s hg hK he hpl
  rw [List.length_map] at z
  exact z
theorem ee_lenTE (hm : X.mg "len" = none) (h : EE X C Γ Ts e Γ1 (.im (.tup (xs.map enc)))) (hg : Gl X "len" := by rfl) (hK : X.K = C.K := by rfl) (he : starEach [e] X.env = (false, eval e X.env) :: starEach [] X.env := by rfl) (hpl : (backTo pos (starEach [] X.env)).any (·.1) = false := by rfl) : EE X C Γ Ts (.Call (.Name "len" nm) [e] [] pos) Γ1 (.im (.int xs.length)) := by
  have z := ee_lenT (nm := nm) (pos := pos) hm h hg hK he hpl
  rw [List.length_map] at z
  exact z
theorem oks_map {l : List α} (f : α → D) (h : ∀ x ∈ l, (f x).ok = true) : oks (l.map f) = true := by
  rw [oks_all, List.all_eq_true]
  intro d hd
  obtain ⟨x, hx, rfl⟩ := List.mem_map.mp hd
  exact h x hx
theorem et_eqNilE (hu : X.A.units + 64 < cLine) (h1 : EE X C Γ Ts a Γ1 t1) (s : Src Γ1 t1 (xs.map enc)) (ho : oks (xs.map enc) = true) {q : Pos} (hK : X.K = C.K := by rfl) : ET X C Γ Ts (.Compare a [.Eq] [.List [] q] pos) Γ1 xs.isEmpty := by
  have z := et_eqNil (q := q) (pos := pos) hu h1 s ho hK
  rw [List.isEmpty_map] at z
  exact z
theorem et_neNilE (hu : X.A.units + 64 < cLine) (h1 : EE X C Γ Ts a Γ1 t1) (s : Src Γ1 t1 (xs.map enc)) (ho : oks (xs.map enc) = true) {q : Pos} (hK : X.K = C.K := by rfl) : ET X C Γ Ts (.Compare a [.NotEq] [.List [] q] pos) Γ1 (!xs.isEmpty) := by
  have z := et_neNil (q := q) (pos := pos) hu h1 s ho hK
  rw [List.isEmpty_map] at z
  exact z
/-- the items with their places -/
def numL (xs : List α) : List (Int × α) := xs.mapIdx fun i x => ((i : Int), x)
def encI (enc : α → D) (p : Int × α) : D := .tup [.int p.1, enc p.2]
theorem enumD_map : enumD (xs.map enc) = (numL xs).map (encI enc) := by
  unfold enumD numL encI
  apply List.ext_getElem?
  intro i
  simp only [List.getElem?_mapIdx, List.getElem?_map]
  cases xs[i]? <;> rfl
theorem ee_pow {n n' : Int} (hc : CPow n n') (h1 : EE X C Γ Ts a Γ1 (.im (.int n))) (h2 : EE X C Γ1 (Ts ++ [.im (.int n)]) b Γ2 (.im (.int n'))) : EE X C Γ Ts (.BinOp a .Pow b pos) Γ2 (.im (.int (n ^ n'.toNat))) := ee_op op_pow h1 h2 (r2s_intC hc fun H => by unfold rD; rfl)
/-- (a, b) = e -/
theorem s_unp {es : List Expr} {kk : Nat} {J : List Nat} (he : EE X C Γ Hs e Γ1 (.im d)) (hg : GT X C Hs Γ1 (.Tuple es kk p) d Γ2 J) (hs : swapsWithSole [.Tuple es kk p] e pos.line X.env = pure false := by rfl) (hw : swappedStores [.Tuple es kk p] e X.env = pure none := by rfl)
    (h1 : (assignEach [.Tuple es kk p] X.env).map (·.2) = [assign (.Tuple es kk p) X.env] := by rfl) : S1 X C Hs Γ (.Assign [.Tuple es kk p] e pos) (.nx Γ2) :=
  (ps_asg he hg hs hw h1).wk fun σ H D ⟨⟨hs, h⟩, q⟩ => ⟨hs, h, fun v H1 h1 => ⟨hs, h1.pop, h1.topIm, fun σ' ag h2 => q σ' hs H1 h2⟩⟩
end
/-! ### data compared and shown, in mirrors -/
def shDD (d : D) : Option Str := if (d.ok && shows d.p) = true then some d.p.shown else none
section
variable {X : Cx} {C : Cn} {Γ Γ1 Γ2 Γ3 Γ' : Ctx} {Ts Hs : List T} {e a b : Expr} {pos nm : Pos} {d d1 d2 d3 : D} {k : Bool} {s : Str}
theorem ee_shDD (hG : X.A.guards = some []) (hu : X.A.units + 64 < cLine) (hm : X.mg "repr" = none) (h : EE X C Γ Ts e Γ1 (.im d)) (hs : shDD d = some s) (hg : Gl X "repr" := by rfl) (hK : X.K = C.K := by rfl) (he : starEach [e] X.env = (false, eval e X.env) :: starEach [] X.env := by rfl) (hpl : (backTo pos (starEach [] X.env)).any (·.1) = false := by rfl) : EE X C Γ Ts (.Call (.Name "repr" nm) [e] [] pos) Γ1 (.im (.str s)) := by
  unfold shDD at hs
  split at hs
  next z =>
    simp only [Bool.and_eq_true] at z
    cases hs
    exact ee_repr hG hu hm h (.im z.1) z.2 hg hK he hpl
  next => cases hs
end
end RL

set_option maxHeartbeats 2000000
/-! RL16: what the printed walks lean on -/
namespace RL
open PySem L2
theorem if_t {α : Type} {b : Bool} {x y : α} (h : b = true) : (if b = true then x else y) = x := if_pos h
theorem if_f {α : Type} {b : Bool} {x y : α} (h : b = false) : (if b = true then x else y) = y := by rw [h] <;> rfl
def Out.k {S R Q : Type} (o : Out S R) (f : S → Option Q) (g : R → Option Q) : Option Q := match o with
  | .rt r => g r
  | .nx s => f s
  | _ => none
abbrev eT2 {α β : Type} (f : α → D) (g : β → D) (p : α × β) : D := .tup [f p.1, g p.2]
abbrev eW2 {α β : Type} (f : α → D) (g : β → D) (p : α × β) : D := .tpw [f p.1, g p.2]
abbrev eF2 {α β : Type} (f : α → D) (g : β → D) (p : α × β) : D := .lst [f p.1, g p.2]
abbrev eTL {α : Type} (f : α → D) (l : List α) : D := .tup (l.map f)
abbrev eFL {α : Type} (f : α → D) (l : List α) : D := .lst (l.map f)
def eO {α : Type} (f : α → D) : Option α → D
  | none => .non
  | some x => f x
abbrev eX (d : D) : D := d
/-- what drawing needs -/
structure Deck where
  great : List Int
  mix : Int
  turn : Int
  wide : Bool
def Deck.wd (b : Bool) : List (Key × M) := if b = true then [(.inr "widest", .im (.bl true))] else []
abbrev Deck.m (d : Deck) : M := .dk ((.inr "great", .li (d.great.map D.int)) :: (.inr "se\x61l", .im (.int d.mix)) :: (.inr "turn", .im (.int d.turn)) :: Deck.wd d.wide)
section
variable {X : Cx} {C : Cn} {Γ Γ1 Γ2 Γ3 Γ' : Ctx} {Ts Hs : List T} {e a b c : Expr} {pos : Pos} {i : Nat} {d : D} {ds : List D} {k : Bool} {st : Stmt} {n n' : Int}
theorem tests0 : PTs X [] (tr C Γ Ts Γ true) := pts_nil.wk fun σ H Q ⟨vs, h, q⟩ => q H h
theorem tests1 (h : ET X C Γ Ts c Γ1 k) : PTs X [c] (tr C Γ Ts Γ1 k) := pts_one h
/-- the list that a statement has laid into the slot i is locked -/
theorem s_lock (i : Nat) (h : S1 X C Hs Γ st (.nx Γ1)) (hi : Γ1[i]? = some (some (.li ds))) : S1 X C Hs Γ st (.nx (Γ1.set i (some (.im (.lst ds))))) := by
  have p : PS X st (fun D σ H => sr C Hs Γ (.nx Γ1) { D with nx := fun σ' H' => ∃ a u, H' a = some u ∧ Mut (some u) ∧ ∀ od, D.nx σ' (upd H' a (.frz od u)) } σ H) := ⟨fun pins s σ H D I q => by
    refine wpAny_mono (h.run pins s σ H _ I q) (fun fl s' r => ?_) fun _ _ z => z
    cases fl with
    | next =>
      obtain ⟨σ', H', I', a, u, e, mu, k⟩ := r
      obtain ⟨od, I2⟩ := I'.lock e mu
      exact ⟨σ', _, I2, k od⟩
    | ret u => exact r
    | brk => exact r
    | cont => exact r⟩
  refine p.wk fun σ H D ⟨h0, q⟩ => ⟨h0, fun σ' hs H1 h1 => ?_⟩
  obtain ⟨w, F, hw, r, up⟩ := h1.slot hi
  unfold rM at r
  obtain ⟨a, us, rfl, hl, rd, hF⟩ := r
  have mu : Mut (some (HO.lst us)) := trivial
  refine ⟨a, _, hl, mu, fun od => q σ' hs _ ?_⟩
  have tf : TF H1 (upd H1 a (.frz od (.lst us))) := TF.write (by rw [hl]; exact mu)
  refine up (.im (.lst ds)) _ e0 tf (fun b nb _ => upd_ne fun z => nb ((hF b).2 z)) ?_ fun b z => z.elim
  unfold rM
  refine ⟨?_, fun _ z => z⟩
  unfold rD
  exact ⟨a, us, rfl, .inl ⟨od, upd_same⟩, rd.tf tf⟩
end
end RL

set_option maxHeartbeats 2000000
/-! RL17: another name becomes the thing itself, late -/
namespace RL
open PySem L2
theorem freeJ_nil {Ts : List T} : FreeJ [] Ts := fun _ h => nomatch h
theorem freeJ_cons {i : Nat} {J : List Nat} {Ts : List T} (h : Free i Ts) (g : FreeJ J Ts) : FreeJ (i :: J) Ts := fun x hx => by
  rcases List.mem_cons.mp hx with z | z
  · subst z; exact h
  · exact g x z
theorem bare_nil {Γ : Ctx} : Bare [] Γ := fun _ h => nomatch h
theorem bare_cons {i : Nat} {J : List Nat} {Γ : Ctx} (h : Γ[i]? = some none) (g : Bare J Γ) : Bare (i :: J) Γ := fun x hx m => by
  rcases List.mem_cons.mp hx with z | z
  · subst z; rw [h]; intro e; cases e
  · exact g x z m
theorem pnJ {pin : List (Nat × V)} {ios J : List Nat} (hpin : ∀ p ∈ pin, p.1 ∈ ios) (h : ∀ i ∈ J, i ∉ ios) : ∀ p ∈ pin, p.1 ∉ J := fun p hp z => h _ z (hpin p hp)
theorem np1 {pin : List (Nat × V)} {ios : List Nat} {i : Nat} (hpin : ∀ p ∈ pin, p.1 ∈ ios) (h : i ∉ ios) : ∀ p ∈ pin, p.1 ≠ i := fun p hp e => h (e ▸ hpin p hp)
section
variable {X : Cx} {C : Cn} {Γ Γ1 Γ2 : Ctx} {Ts : List T} {ts : List T} {es : List Expr} {j : Nat} {m : M} {σ : L2.St} {vs : List V} {H : Hp}
theorem As.late (h : As C Γ (Ts ++ (.al j :: ts)) σ vs H) (hj : Γ[j]? = some (some m)) : As C (Γ.set j none) (Ts ++ (.tk j m :: ts)) σ vs H := by
  obtain ⟨fp, W⟩ := h
  let n := Ts.length
  have nn : ∀ x : Nat, (Sum.inl x : Sum Nat Nat) ≠ .inr n := fun x z => nomatch z
  have at_n : (Ts ++ (T.al j :: ts))[n]? = some (.al j) := by simp [n]
  obtain ⟨v, hv, hσ, hn⟩ := W.tp n _ at_n
  obtain ⟨v2, hσ2, r⟩ := W.sl j m hj
  rw [hσ] at hσ2
  cases hσ2
  let fq : Sum Nat Nat → FS := fun y => if y = .inr n then fp (.inl j) else if y = .inl j then e0 else fp y
  have q0 : fq (.inr n) = fp (.inl j) := if_pos rfl
  have q1 : fq (.inl j) = e0 := (if_neg (nn j)).trans (if_pos rfl)
  have q2 : ∀ y, y ≠ .inl j → y ≠ .inr n → fq y = fp y := fun y h1 h2 => (if_neg h2).trans (if_neg h1)
  have le : ∀ y a, fq y a → (y = .inr n ∧ fp (.inl j) a) ∨ (y ≠ .inl j ∧ y ≠ .inr n ∧ fp y a) := fun y a ha => by
    by_cases h1 : y = .inr n
    · subst h1; rw [q0] at ha; exact .inl ⟨rfl, ha⟩
    · by_cases h2 : y = .inl j
      · subst h2; rw [q1] at ha; exact ha.elim
      · rw [q2 y h2 h1] at ha; exact .inr ⟨h2, h1, ha⟩
  have ex : ∀ y a, fq y a → ∃ x, fp x a := fun y a ha => by
    rcases le y a ha with ⟨_, h⟩ | ⟨_, _, h⟩
    · exact ⟨_, h⟩
    · exact ⟨_, h⟩
  refine ⟨fq, by simp [W.lg], by have := W.ln; simp at this ⊢; exact this, fun i mi hi => ?_, fun k t hk => ?_, fun x y hxy a ha hb => ?_, fun x a ha => ?_, fun x a ha => ?_, W.fr, W.pn⟩
  · by_cases e : i = j
    · subst e
      have hl : i < Γ.length := (List.getElem?_eq_some_iff.mp hj).1
      rw [List.getElem?_set_self hl] at hi
      cases hi
    · rw [List.getElem?_set_ne (Ne.symm e)] at hi
      obtain ⟨w, r1, r2⟩ := W.sl i mi hi
      exact ⟨w, r1, by rw [q2 (.inl i) (fun z => e (Sum.inl.inj z)) (nn i)]; exact r2⟩
  · by_cases e : k = n
    · subst e
      have hk' : (Ts ++ (T.tk j m :: ts))[n]? = some (.tk j m) := by simp [n]
      rw [hk'] at hk
      cases hk
      exact ⟨v, hv, hσ, by rw [q0]; exact r⟩
    · have hk2 : (Ts ++ (T.al j :: ts))[k]? = some t := by
        by_cases hl : k < n
        · rw [List.getElem?_append_left hl] at hk ⊢
          exact hk
        · have hl2 : n ≤ k := by omega
          rw [List.getElem?_append_right hl2] at hk ⊢
          obtain ⟨k', hk'⟩ : ∃ k', k - Ts.length = k' + 1 := ⟨k - n - 1, by show k - n = _; omega⟩
          rw [hk', List.getElem?_cons_succ] at hk ⊢
          exact hk
      obtain ⟨w, r1, r2⟩ := W.tp k t hk2
      exact ⟨w, r1, by rw [q2 (.inr k) (fun z => nomatch z) (fun z => e (Sum.inr.inj z))]; exact r2⟩
  · rcases le x a ha with ⟨h1, h2⟩ | ⟨h1, h2, h3⟩
    · rcases le y a hb with ⟨g1, g2⟩ | ⟨g1, g2, g3⟩
      · exact hxy (h1.trans g1.symm)
      · exact W.dj _ _ (Ne.symm g1) a h2 g3
    · rcases le y a hb with ⟨g1, g2⟩ | ⟨g1, g2, g3⟩
      · exact W.dj _ _ h1 a h3 g2
      · exact W.dj x y hxy a h3 g3
  · obtain ⟨y, h⟩ := ex x a ha
    exact W.sn y a h
  · obtain ⟨y, h⟩ := ex x a ha
    exact W.mu y a h
theorem ea_late (h : EA X C Γ Ts es Γ1 (.al j :: ts)) (hj : Γ1[j]? = some (some m) := by rfl) : EA X C Γ Ts es (Γ1.set j none) (.tk j m :: ts) := h.wk fun σ H Q ⟨vs, h, q⟩ => ⟨vs, h, fun us H1 l h1 => q us H1 (by simpa using l) (h1.late hj)⟩
end
end RL

set_option maxHeartbeats 2000000
/-! RL18: the deck of a law -/
namespace RL
open PySem L2
theorem ee_negc {X : Cx} {C : Cn} {Γ : Ctx} {Ts : List T} {pos q : Pos} {kk : Nat} {m : Int} : EE X C Γ Ts (.UnaryOp .USub (.Constant (.int m) kk q) pos) Γ (.im (.int (-m))) := (pe_un un_neg pe_int).wk fun σ H Q ⟨vs, h, q⟩ => ⟨m, rfl, q _ H (h.pushIm Ext.refl (by unfold rD; rfl))⟩
abbrev kMix : Sp1 := .k (.inr "se\x61l")
abbrev kTurn : Sp1 := .k (.inr "turn")
theorem ne1 : ¬ (Sum.inr (Str.ofString "great") : Key) = Sum.inr (Str.ofString "se\x61l") := by intro e; injection e with e; revert e; decide
theorem ne2 : ¬ (Sum.inr (Str.ofString "great") : Key) = Sum.inr (Str.ofString "turn") := by intro e; injection e with e; revert e; decide
theorem ne3 : ¬ (Sum.inr (Str.ofString "se\x61l") : Key) = Sum.inr (Str.ofString "turn") := by intro e; injection e with e; revert e; decide
theorem Deck.mix_sub {d : Deck} : (Deck.m d).sub kMix = some (.im (.int d.mix)) := by show getM _ _ = _; unfold getM; rw [if_neg ne1]; unfold getM; rw [if_pos rfl]
theorem Deck.turn_sub {d : Deck} : (Deck.m d).sub kTurn = some (.im (.int d.turn)) := by show getM _ _ = _; unfold getM; rw [if_neg ne2]; unfold getM; rw [if_neg ne3]; unfold getM; rw [if_pos rfl]
theorem ne6 : ¬ (Sum.inr (Str.ofString "turn") : Key) = Sum.inr (Str.ofString "widest") := by intro e; injection e with e; revert e; decide
theorem wd_map {t : M} {b : Bool} : (Deck.wd b).map (fun kv => if kv.1 = (Sum.inr (Str.ofString "turn") : Key) then (kv.1, t) else kv) = Deck.wd b := by
  unfold Deck.wd
  cases b with
  | false => rfl
  | true =>
    rw [if_pos rfl]
    show [if (Sum.inr (Str.ofString "widest") : Key) = Sum.inr (Str.ofString "turn") then _ else _] = _
    rw [if_neg fun e => ne6 e.symm]
theorem Deck.turn_put {d : Deck} {t : Int} : M.dk (putM ((.inr "great", .li (d.great.map D.int)) :: (.inr "se\x61l", .im (.int d.mix)) :: (.inr "turn", .im (.int d.turn)) :: Deck.wd d.wide) (.inr "turn") (.im (.int t))) = Deck.m ⟨d.great, d.mix, t, d.wide⟩ := by
  have e : getM ((.inr "great", .li (d.great.map D.int)) :: (.inr "se\x61l", .im (.int d.mix)) :: (.inr "turn", .im (.int d.turn)) :: Deck.wd d.wide) (.inr "turn") = some (.im (.int d.turn)) := Deck.turn_sub
  unfold putM
  rw [e]
  show M.dk (List.map _ _) = _
  simp only [List.map_cons, wd_map]
  rw [if_neg ne2, if_neg ne3, if_pos trivial]
section
variable {X : Cx} {C : Cn} {Γ Γ1 Γ2 : Ctx} {Ts Hs : List T} {nm e b : Expr} {pos p apos cpos : Pos} {d : Deck} {j : Nat} {x : Int} {k0 : Nat} {q : Pos}
section
variable {α : Type} {enc : α → D} {xs ys : List α} {x : α} {m m' : M} {s : Sp1} {r : R2}
/-- x[k] != [], over typed lists -/
theorem et_neNilZE (hu : X.A.units + 64 < cLine) (j : Nat) (S : SubR X s r) (hn : PE X nm (tVar j)) (hj : Γ[j]? = some (some m)) (hb : EE X C Γ (Ts ++ [.al j]) b Γ (.im s.d)) (e1 : m.sub s = some (.li (xs.map enc))) (ho : oks (xs.map enc) = true) {q1 : Pos} (hs : PlainIx b := by exact fun _ _ => rfl) (hK : X.K = C.K := by rfl) :
    ET X C Γ Ts (.Compare (.Subscript nm b p) [.NotEq] [.List [] q1] pos) Γ (!xs.isEmpty) := by
  have z := et_neNilZ (p := p) (pos := pos) (q1 := q1) hu j S hn hj hb e1 ho hs hK
  rw [List.isEmpty_map] at z
  exact z
theorem ee_popZE (j : Nat) (S : SubR X s r) (hn : PE X nm (tVar j)) (hj : Γ[j]? = some (some m)) (hb : EE X C Γ (Ts ++ [.al j]) b Γ (.im s.d)) (e1 : m.sub s = some (.li (xs.map enc))) (hd : xs.getLast? = some x) (hc : m.chg s (.li (xs.dropLast.map enc)) = m') (hs : PlainIx b := by exact fun _ _ => rfl)
    (hbase : attributeBase (.Subscript nm b p) "pop" X.env (eval (.Subscript nm b p) X.env) = eval (.Subscript nm b p) X.env := by rfl) (hline : (apos.endLine == cpos.line) = true := by rfl) :
    EE X C Γ Ts (.Call (.Attribute (.Subscript nm b p) "pop" apos) [] [] cpos) (Γ.set j (some m')) (.im (enc x)) := by
  rw [← hc, List.map_dropLast]
  exact ee_popZ j S hn hj hb e1 (by rw [List.getLast?_map, hd] <;> rfl) hs hbase hline
theorem ee_appZE (j : Nat) (S : SubR X s r) (hn : PE X nm (tVar j)) (hj : Γ[j]? = some (some m)) (hb : EE X C Γ (Ts ++ [.al j]) b Γ (.im s.d)) (e1 : m.sub s = some (.li (xs.map enc))) (he : EQ X C Γ e (enc x)) (hlen : xs.length < sizeLine) (hc : m.chg s (.li ((xs ++ [x]).map enc)) = m') (hs : PlainIx b := by exact fun _ _ => rfl)
    (hbase : attributeBase (.Subscript nm b p) "append" X.env (eval (.Subscript nm b p) X.env) = eval (.Subscript nm b p) X.env := by rfl)
    (hfew : ((backTo cpos (starEach [e] X.env)).all (fun x => !x.1) && (backToKw cpos (keywordEach [] X.env)).all (fun x => x.1.isSome)
      && decide ([e].length + ([] : List Keyword).length + (if ([] : List Keyword).isEmpty then 0 else 1) < 30)) = true := by rfl)
    (hline : (apos.endLine == cpos.line) = true := by rfl) (hst : starEach [e] X.env = (false, eval e X.env) :: starEach [] X.env := by rfl) (hplain : (backTo cpos (starEach [] X.env)).any (·.1) = false := by rfl) :
    EE X C Γ Ts (.Call (.Attribute (.Subscript nm b p) "append" apos) [e] [] cpos) (Γ.set j (some m')) (.im .non) := by
  rw [← hc, List.map_append]
  exact ee_appZ j S hn hj hb e1 he (by rw [List.length_map]; exact hlen) hs hbase hfew hline hst hplain
end
end
end RL

set_option maxHeartbeats 2000000
/-! RL19: what the own rewriting of picks and of sameness leans on -/
namespace RL
open PySem L2
mutual
/-- data that can be told the same, of a bounded depth -/
def D.pl : Nat → D → Bool
  | _, .non => true
  | _, .bl _ => true
  | _, .int _ => true
  | _, .str _ => true
  | 0, .tup _ => false
  | n + 1, .tup l => pls n l
  | _, _ => false
def pls : Nat → List D → Bool
  | _, [] => true
  | n, d :: l => D.pl n d && pls n l
end
open Classical in
theorem atI_nat {α : Type} {l : List α} {i : Nat} {x : α} (h : l[i]? = some x) : atI l (i : Int) = some x := by
  have hl : i < l.length := (List.getElem?_eq_some_iff.mp h).1
  unfold atI ixN
  rw [if_pos (Int.natCast_nonneg i), if_pos (by omega)]
  simpa using h
section
variable {X : Cx} {C : Cn} {Γ Γ1 Γ2 : Ctx} {Ts : List T} {e a b c : Expr} {pos q : Pos} {k k2 : Bool} {kk : Nat}
theorem ee_isB (h : EE X C Γ Ts a Γ1 (.im (.bl k))) : EE X C Γ Ts (.Compare a [.Is] [.Constant (.bool k2) kk q] pos) Γ1 (.im (.bl (decide (k = k2)))) := ee_cmp op_isBl (nomark _) h ee_bl (r2s_im fun x y H hx hy Q q => by
  unfold rD at hx hy
  exact ⟨k, k2, hx, hy, q _ (by unfold rD; rfl)⟩)
theorem et_to (h : ET X C Γ Ts e Γ1 k) (z : k = k2) : ET X C Γ Ts e Γ1 k2 := z ▸ h
theorem map_eX (l : List D) : l.map eX = l := by
  induction l with
  | nil => rfl
  | cons d l ih => rw [List.map_cons, ih]
end
end RL

set_option maxHeartbeats 2000000
/-! RL20: a, b = e1, e2 by way of a tuple (where a name is taken along by a comprehension) -/
namespace RL
open PySem L2
section
variable {X : Cx} {C : Cn} {Γ Γ1 Γ2 : Ctx} {Hs : List T} {a b c : Expr} {pos px py pz pt : Pos} {m1 m2 m3 : M}
theorem s_unp2 (i j : Nat) {x y : Str} {kt k2 pt2} (hcm : X.calm = true) (hN : X.N.Nodup) (hi : X.N[i]? = some x) (hj : X.N[j]? = some y) (hij : i ≠ j) (hxl : Loc X.env.scope x) (hyl : Loc X.env.scope y)
    (hpi : ∀ p ∈ C.pin, p.1 ≠ i) (hpj : ∀ p ∈ C.pin, p.1 ≠ j) (hfi : Free i Hs) (hfj : Free j Hs) (ha : EA X C Γ Hs [a, b] Γ1 [.own m1, .own m2])
    (hw : swappedStores [.Tuple [.Name x px, .Name y py] kt pt] (.Tuple [a, b] k2 pt2) X.env = pure none := by kernel_rfl)
    (hs : swapsWithSole [.Tuple [.Name x px, .Name y py] kt pt] (.Tuple [a, b] k2 pt2) pos.line X.env = pure false := by rfl)
    (h1 : (assignEach [.Tuple [.Name x px, .Name y py] kt pt] X.env).map (·.2) = [assign (.Tuple [.Name x px, .Name y py] kt pt) X.env] := by rfl)
    (h2 : (assignEach [.Name x px, .Name y py] X.env).map (·.2) = assign (.Name x px) X.env :: (assignEach [.Name y py] X.env).map (·.2) := by rfl)
    (h3 : (assignEach [.Name y py] X.env).map (·.2) = assign (.Name y py) X.env :: (assignEach [] X.env).map (·.2) := by rfl)
    (hn : (assignEach [.Name x px, .Name y py] X.env).length = 2 := by rfl) (hst : (assignEach [.Name x px, .Name y py] X.env).findIdx? (·.1) = none := by rfl)
    (hn1 : X.fn x = true ∨ X.env.scope.names.lookup x = some .local := by first | exact .inl rfl | exact .inr rfl) (hn2 : X.fn y = true ∨ X.env.scope.names.lookup y = some .local := by first | exact .inl rfl | exact .inr rfl) :
    S1 X C Hs Γ (.Assign [.Tuple [.Name x px, .Name y py] kt pt] (.Tuple [a, b] k2 pt2) pos) (.nx ((Γ1.set j (some m2)).set i (some m1))) :=
  (ps_asg (pe_tup ha) (pg_tup hcm (pgs_cons (pg_name hN hi hxl hn1) (pgs_cons (pg_name hN hj hyl hn2) pgs_nil h3) h2) hn hst) hs hw h1).wk fun σ H D ⟨⟨hs, h⟩, q⟩ => ⟨hs, h, fun us H1 hl h1 => by
    obtain ⟨u, w, rfl⟩ : ∃ u w, us = [u, w] := match us, hl with | [u, w], _ => ⟨u, w, rfl⟩
    refine ⟨show 2 ≤ sizeLine by decide, fun p hp => ⟨p, [u, w], rfl, SqT.of upd_same, rfl, u, [w], rfl, w, [], rfl, rfl, ?_⟩⟩
    have h2 : As C Γ1 ((Hs ++ [.own m1]) ++ [.own m2]) σ ((hs ++ [u]) ++ [w]) (upd H1 p (.tup [u, w])) := by simpa using h1.ext (Ext.new hp)
    have h3 := h2.set hpj (hfj.append free1)
    have h4 := h3.set hpi hfi
    have e : (σ.set j (some w)).set i (some u) = (σ.set i (some u)).set j (some w) := List.set_comm _ _ (Ne.symm hij)
    rw [e] at h4
    exact q _ hs _ h4⟩
theorem s_unp3 (i j l : Nat) {x y z : Str} {kt k2 pt2} (hcm : X.calm = true) (hN : X.N.Nodup) (hi : X.N[i]? = some x) (hj : X.N[j]? = some y) (hk : X.N[l]? = some z) (hij : i ≠ j) (hil : i ≠ l) (hjl : j ≠ l) (hxl : Loc X.env.scope x) (hyl : Loc X.env.scope y) (hzl : Loc X.env.scope z)
    (hpi : ∀ p ∈ C.pin, p.1 ≠ i) (hpj : ∀ p ∈ C.pin, p.1 ≠ j) (hpl : ∀ p ∈ C.pin, p.1 ≠ l) (hfi : Free i Hs) (hfj : Free j Hs) (hfl : Free l Hs) (ha : EA X C Γ Hs [a, b, c] Γ1 [.own m1, .own m2, .own m3])
    (hw : swappedStores [.Tuple [.Name x px, .Name y py, .Name z pz] kt pt] (.Tuple [a, b, c] k2 pt2) X.env = pure none := by kernel_rfl)
    (hs : swapsWithSole [.Tuple [.Name x px, .Name y py, .Name z pz] kt pt] (.Tuple [a, b, c] k2 pt2) pos.line X.env = pure false := by rfl)
    (h1 : (assignEach [.Tuple [.Name x px, .Name y py, .Name z pz] kt pt] X.env).map (·.2) = [assign (.Tuple [.Name x px, .Name y py, .Name z pz] kt pt) X.env] := by rfl)
    (h2 : (assignEach [.Name x px, .Name y py, .Name z pz] X.env).map (·.2) = assign (.Name x px) X.env :: (assignEach [.Name y py, .Name z pz] X.env).map (·.2) := by rfl)
    (h3 : (assignEach [.Name y py, .Name z pz] X.env).map (·.2) = assign (.Name y py) X.env :: (assignEach [.Name z pz] X.env).map (·.2) := by rfl)
    (h4 : (assignEach [.Name z pz] X.env).map (·.2) = assign (.Name z pz) X.env :: (assignEach [] X.env).map (·.2) := by rfl)
    (hn : (assignEach [.Name x px, .Name y py, .Name z pz] X.env).length = 3 := by rfl) (hst : (assignEach [.Name x px, .Name y py, .Name z pz] X.env).findIdx? (·.1) = none := by rfl)
    (hn1 : X.fn x = true ∨ X.env.scope.names.lookup x = some .local := by first | exact .inl rfl | exact .inr rfl) (hn2 : X.fn y = true ∨ X.env.scope.names.lookup y = some .local := by first | exact .inl rfl | exact .inr rfl) (hn3 : X.fn z = true ∨ X.env.scope.names.lookup z = some .local := by first | exact .inl rfl | exact .inr rfl) :
    S1 X C Hs Γ (.Assign [.Tuple [.Name x px, .Name y py, .Name z pz] kt pt] (.Tuple [a, b, c] k2 pt2) pos) (.nx (((Γ1.set l (some m3)).set j (some m2)).set i (some m1))) :=
  (ps_asg (pe_tup ha) (pg_tup hcm (pgs_cons (pg_name hN hi hxl hn1) (pgs_cons (pg_name hN hj hyl hn2) (pgs_cons (pg_name hN hk hzl hn3) pgs_nil h4) h3) h2) hn hst) hs hw h1).wk fun σ H D ⟨⟨hs, h⟩, q⟩ => ⟨hs, h, fun us H1 hl h1 => by
    obtain ⟨u, w, r, rfl⟩ : ∃ u w r, us = [u, w, r] := match us, hl with | [u, w, r], _ => ⟨u, w, r, rfl⟩
    refine ⟨show 3 ≤ sizeLine by decide, fun p hp => ⟨p, [u, w, r], rfl, SqT.of upd_same, rfl, u, [w, r], rfl, w, [r], rfl, r, [], rfl, rfl, ?_⟩⟩
    have h2 : As C Γ1 (((Hs ++ [.own m1]) ++ [.own m2]) ++ [.own m3]) σ (((hs ++ [u]) ++ [w]) ++ [r]) (upd H1 p (.tup [u, w, r])) := by simpa using h1.ext (Ext.new hp)
    have h3 := h2.set hpl ((hfl.append free1).append free1)
    have h4 := h3.set hpj (hfj.append free1)
    have h5 := h4.set hpi hfi
    have e : ((σ.set l (some r)).set j (some w)).set i (some u) = ((σ.set i (some u)).set j (some w)).set l (some r) := by
      rw [List.set_comm _ _ (Ne.symm hij), List.set_comm (some r) (some u) (Ne.symm hil), List.set_comm (some r) (some w) (Ne.symm hjl)]
    rw [e] at h5
    exact q _ hs _ h5⟩
end
section
variable {X : Cx} {C : Cn} {Γ Γ1 Γ2 : Ctx} {Ts ts : List T} {k n : Nat} {f : Addr} {fd : FuncData} {ps : List Str} {x : Str} {p pos : Pos} {e : Expr} {es : List Expr} {ios : List Nat} {rel : List M → M → List M → Prop} {ms ms' : List M} {r : M}
theorem ee_callX (F : FnG X.prog X.w X.K X.mg X.base k f fd ps (spR X.K n ios rel)) (hr : Room k X.A) (hG : X.A.guards = some []) (hm : X.mg x = some (.ref f)) (hk : PySem.W.keepIn X.K (.ref f) = true) (hb : Binds X.K fd ps [])
    (ha : EA X C Γ Ts (e :: es) Γ1 ts) (hrel : rel ms r ms') (hΓ : putAll Γ1 (jsOf ts ios) ms' = Γ2 := by rfl) (hg : Gl X x := by rfl) (hK : X.K = C.K := by rfl) (hn : ts.length = n := by rfl) (hms : ts.map T.mo = ms.map some := by rfl) (hl : ms'.length = ios.length := by rfl) (hdb : (x == ("__debug__" : Str)) = false := by decide)
    (he : starEach (e :: es) X.env = (false, eval e X.env) :: starEach es X.env := by rfl) (hpl : (backTo pos (starEach es X.env)).any (·.1) = false := by rfl) :
    EE X C Γ Ts (.Call (.Name x p) (e :: es) [] pos) Γ2 (.own r) := hΓ ▸ ee_call F hr hG hm hk hb ha hrel hg hK hn hms hl hdb he hpl
end
theorem outk_nx {S R Q : Type} {s : S} {f : S → Option Q} {g : R → Option Q} {x : Option Q} (h : Out.k (.nx s) f g = x) : f s = x := h
theorem outk_rt {S R Q : Type} {r : R} {f : S → Option Q} {g : R → Option Q} {x : Option Q} (h : Out.k (.rt r) f g = x) : g r = x := h
theorem outk_bk {S R Q : Type} {s : S} {f : S → Option Q} {g : R → Option Q} {x : Q} (h : Out.k (.bk s) f g = some x) : False := by cases h
theorem outk_ct {S R Q : Type} {s : S} {f : S → Option Q} {g : R → Option Q} {x : Q} (h : Out.k (.ct s) f g = some x) : False := by cases h
end RL

set_option maxHeartbeats 2000000
/-! RL21: drawing, in plain Lean -/
namespace RL
open PySem L2
theorem modB {a b : Int} (h : 0 < b) (h2 : b < 2 ^ 64) : CMul (a % b) (a % b) := .inl ⟨by have := Int.emod_nonneg a (Int.ne_of_gt h); omega, by have := Int.emod_lt_of_pos a h; omega⟩
/-! ### it is total -/
def Deck.ok (d : Deck) : Prop := d.great.length ≤ 63
theorem iex {β : Type} {c : Bool} {x y : Option β} {P : β → Prop} (h1 : c = true → ∃ b, x = some b ∧ P b) (h2 : c = false → ∃ b, y = some b ∧ P b) : ∃ b, (if c = true then x else y) = some b ∧ P b := by
  cases c with
  | true => rw [if_pos rfl]; exact h1 rfl
  | false => rw [if_neg Bool.false_ne_true]; exact h2 rfl
theorem gdd {p : Prop} [Decidable p] (h : p) : gd (decide p) = some () := gd_ok (decide_eq_true h)
/-! ### loops -/
theorem lcM_filterU {α β : Type} {t : α → Bool} {g : α → β} {xs : List α} : lcM (fun (_ : Unit) x => some ((), if t x = true then some (g x) else none)) () xs = some ((), (xs.filter t).map g) := lcM_filter t g () xs
theorem lcM_mapU {α β : Type} {g : α → β} {xs : List α} : lcM (fun (_ : Unit) x => some ((), some (g x))) () xs = some ((), xs.map g) := lcM_map g () xs
theorem forS_app {S α : Type} {f : S → α → Option S} : ∀ {xs ys : List α} {s : S}, forS f s (xs ++ ys) = (forS f s xs).bind fun s' => forS f s' ys
  | [], ys, s => rfl
  | x :: xs, ys, s => by
    show (f s x).bind _ = ((f s x).bind _).bind _
    cases f s x with
    | none => rfl
    | some s1 => exact forS_app
theorem forS_snoc {S α : Type} {f : S → α → Option S} {xs : List α} {x : α} {s s1 s2 : S} (h1 : forS f s xs = some s1) (h2 : f s1 x = some s2) : forS f s (xs ++ [x]) = some s2 := by
  rw [forS_app, h1]
  show (f s1 x).bind _ = _
  rw [h2] <;> rfl
theorem lcM_ex {S α β : Type} {f : S → α → Option (S × Option β)} (Inv : S → Prop) (P : β → Prop) : ∀ {xs : List α} {s : S}, (∀ x s, x ∈ xs → Inv s → ∃ p, f s x = some p ∧ Inv p.1 ∧ ∃ y, p.2 = some y ∧ P y) → Inv s → ∃ q, lcM f s xs = some q ∧ Inv q.1 ∧ q.2.length = xs.length ∧ ∀ y ∈ q.2, P y
  | [], s, _, h => ⟨(s, []), rfl, h, rfl, fun y hy => by simp at hy⟩
  | x :: xs, s, st, h => by
    obtain ⟨p, e1, i1, y, ey, py⟩ := st x s (by simp) h
    obtain ⟨q, e2, i2, l2, p2⟩ := lcM_ex Inv P (xs := xs) (s := p.1) (fun y s hy => st y s (by simp [hy])) i1
    refine ⟨(q.1, y :: q.2), ?_, i2, by simp [l2], fun z hz => by
      rcases List.mem_cons.mp hz with e | e
      · subst e; exact py
      · exact p2 z e⟩
    unfold lcM
    rw [e1]
    show (lcM f p.1 xs).bind _ = _
    rw [e2, ey] <;> rfl
theorem whS_ex {S : Type} {c : S → Bool} {f : S → Option S} (Inv : S → Prop) (μ : S → Nat) (st : ∀ s, Inv s → c s = true → ∃ s', f s = some s' ∧ Inv s' ∧ μ s' < μ s) : ∀ {n : Nat} {s : S}, Inv s → μ s < n → ∃ s', whS c f n s = some s' ∧ Inv s' ∧ c s' = false
  | 0, s, _, h => absurd h (Nat.not_lt_zero _)
  | n + 1, s, i, h => by
    unfold whS
    cases hc : c s with
    | true =>
      obtain ⟨s1, e1, i1, d1⟩ := st s i hc
      rw [if_pos rfl, e1]
      exact whS_ex Inv μ st (n := n) (s := s1) i1 (by omega)
    | false =>
      rw [if_neg Bool.false_ne_true]
      exact ⟨s, rfl, i, hc⟩
theorem cutL_to {α : Type} {xs : List α} {n : Nat} : cutL xs none (some (n : Int)) = xs.take n := by
  unfold cutL
  rw [HT.sIx_none, HT.sIx_nat]
  simp only [List.drop_zero, Nat.sub_zero]
  rcases Nat.le_total n xs.length with h | h
  · rw [Nat.min_eq_left h]
  · rw [Nat.min_eq_right h, List.take_of_length_le (Nat.le_refl _), List.take_of_length_le h]
theorem mem_numL {α : Type} {xs : List α} {x : Int × α} (h : x ∈ numL xs) : ∃ i : Nat, x.1 = i ∧ xs[i]? = some x.2 := by
  unfold numL at h
  obtain ⟨i, hi⟩ := List.getElem?_of_mem h
  rw [List.getElem?_mapIdx] at hi
  cases q : xs[i]? with
  | none => rw [q] at hi; cases hi
  | some d => rw [q] at hi; cases hi; exact ⟨i, rfl, q⟩
theorem len_numL {α : Type} {xs : List α} : (numL xs).length = xs.length := by unfold numL; simp
theorem mem_rng {lo hi x : Int} (h : x ∈ rng lo hi) : lo ≤ x ∧ x < hi := by
  unfold rng at h
  obtain ⟨i, hi, rfl⟩ := List.mem_map.mp h
  rw [List.mem_range] at hi
  omega
/-! ### what repr shows -/
end RL

set_option maxHeartbeats 2000000
/-! RL22: data that repr shows -/
namespace RL
open PySem L2
end RL

set_option maxHeartbeats 4000000
/-! RL23: more of tuples and lists -/
namespace RL
open PySem L2 PySem.Spec PyProof.Rows
section
variable {X : Cx}
end
theorem rDs.rep {K : PySem.W.Frag} {H : Hp} {ds : List D} {us : List V} (h : rDs K ds us H) : ∀ n : Nat, rDs K (List.replicate n ds).flatten (List.replicate n us).flatten H
  | 0 => by show rDs K [] [] H; unfold rDs; rfl
  | n + 1 => by
    rw [List.replicate_succ, List.replicate_succ, List.flatten_cons, List.flatten_cons]
    exact h.app (rDs.rep h n)
section
variable {X : Cx} {C : Cn} {Γ Γ1 Γ2 Γ3 Γ' : Ctx} {Ts Hs : List T} {t t1 t2 t3 : T} {ts : List T} {e a b c tg iter : Expr} {es rest : List Expr} {pos p p2 nm apos cpos : Pos} {nme : Expr} {i j : Nat} {d d1 d2 d3 : D} {ds ds' : List D} {m : M} {b1 b2 k : Bool} {α β : Type} {enc : α → D} {xs ys : List α} {x y : α} {n n' : Int}
/-- [a] * n -/
theorem ee_repLE (h1 : EE X C Γ Ts a Γ1 (.own (.li [enc x]))) (h2 : EE X C Γ1 (Ts ++ [.own (.li [enc x])]) b Γ2 (.im (.int n))) (h0 : 0 ≤ n) (hb : n ≤ 1000) : EE X C Γ Ts (.BinOp a .Mult b pos) Γ2 (.own (.li ((List.replicate n.toNat x).map enc))) := ee_op op_rep h1 h2 fun σ vs x' y' H hA Q q => by
  have hy := hA.topIm
  unfold rD at hy
  obtain ⟨p, us, rfl, hp, r1⟩ := hA.pop.srcS .own
  have l1 : us.length = 1 := r1.len
  refine ⟨p, n, us, rfl, hy, hp, by omega, by omega, ?_, fun w hw => q _ _ (hA.pop.pop.push (Ext.new hw) (t := .own (.li ((List.replicate n.toNat x).map enc))) (F := fun z => z = w) ?_ (fun z e => by rw [e]; exact hw) fun z e => by rw [e, upd_same]; trivial)⟩
  · rw [l1]
    exact Nat.le_trans (by omega : 1 * n.toNat ≤ 1000) (by decide)
  · show rM _ _ _ _ _
    unfold rM
    have e : (List.replicate n.toNat [enc x]).flatten = (List.replicate n.toNat x).map enc := by
      rw [List.map_replicate]
      induction n.toNat with
      | zero => rfl
      | succ k ih => rw [List.replicate_succ, List.replicate_succ, List.flatten_cons, ih] <;> rfl
    rw [← e]
    exact ⟨w, _, rfl, upd_same, (r1.rep _).tf (Ext.new hw).tf, fun _ => Iff.rfl⟩
/-! ### what may be None -/
theorem ee_some {f : α → D} {o : Option α} (h : EE X C Γ Ts e Γ1 (.im (eO f o))) (hp : o = some x) : EE X C Γ Ts e Γ1 (.im (f x)) := by
  subst hp
  exact h
def NN (f : α → D) : Prop := ∀ x, f x ≠ .non
theorem et_isN0 (hd : d ≠ .non) (h : EE X C Γ Ts e Γ1 (.im d)) {j2 p3} : ET X C Γ Ts (.Compare e [.Is] [.Constant .none j2 p3] pos) Γ1 false := by
  cases d with
  | non => exact absurd rfl hd
  | bl b => exact et_isN (d := .bl b) h
  | int b => exact et_isN (d := .int b) h
  | str b => exact et_isN (d := .str b) h
  | tup b => exact et_isN (d := .tup b) h
  | lst b => exact et_isN (d := .lst b) h
  | dct b => exact et_isN (d := .dct b) h
  | ty b => exact et_isN (d := .ty b) h
  | tpw b => exact et_isN (d := .tpw b) h
theorem et_isNO {f : α → D} {o : Option α} (hf : NN f) (h : EE X C Γ Ts e Γ1 (.im (eO f o))) {j2 p3} : ET X C Γ Ts (.Compare e [.Is] [.Constant .none j2 p3] pos) Γ1 o.isNone := by
  cases o with
  | none => exact et_isN (d := .non) h
  | some x => exact et_isN0 (hf x) h
/-! ### max, min of two numbers -/
end
end RL

set_option maxHeartbeats 4000000
/-! RL24: zip, list(..), pop(i), a list unpacked -/
namespace RL
open PySem L2 PySem.Spec PyProof.Rows
def ZP (K : PySem.W.Frag) (ds es : List D) (v : V) (H : Hp) : Prop := ∃ (a b : Addr) (us ws : List V), v = .str ⟨#[a, b]⟩ ∧ SqT K H a us ∧ SqT K H b ws ∧ rDs K ds us H ∧ rDs K es ws H
theorem ZP.st {K : PySem.W.Frag} {ds es : List D} {v : V} : ∀ H H', TF H H' → ZP K ds es v H → ZP K ds es v H' := fun H H' t ⟨a, b, us, ws, e, h1, h2, h3, h4⟩ => ⟨a, b, us, ws, e, t.sqt h1, t.sqt h2, h3.tf t, h4.tf t⟩
section
variable {X : Cx} {C : Cn} {Γ Γ1 Γ2 Γ3 Γ' : Ctx} {Ts Hs : List T} {t t1 t2 t3 : T} {ts : List T} {e a b c tg iter : Expr} {es rest : List Expr} {pos p p2 nm apos cpos : Pos} {nme : Expr} {i j : Nat} {d d1 d2 d3 : D} {ds ds' : List D} {m : M} {b1 b2 k : Bool} {α β : Type} {enc f : α → D} {g : β → D} {xs : List α} {ys : List β} {x y : α} {n n' : Int}
theorem zip_get {i : Nat} {us ws : List V} {H : Hp} {x1 y1 : V} (r1 : rDs C.K (xs.map f) us H) (r2 : rDs C.K (ys.map g) ws H) (hx : us[i]? = some x1) (hy : ws[i]? = some y1) : ∃ p, (xs.zip ys)[i]? = some p ∧ rD C.K (f p.1) x1 H ∧ rD C.K (g p.2) y1 H := by
  obtain ⟨d1, h1, q1⟩ := r1.get2 hx
  obtain ⟨d2, h2, q2⟩ := r2.get2 hy
  rw [List.getElem?_map] at h1 h2
  cases e1 : xs[i]? with
  | none => rw [e1] at h1; cases h1
  | some x =>
    cases e2 : ys[i]? with
    | none => rw [e2] at h2; cases h2
    | some y =>
      rw [e1] at h1
      rw [e2] at h2
      cases h1
      cases h2
      refine ⟨(x, y), ?_, q1, q2⟩
      rw [List.getElem?_zip_eq_some]
      exact ⟨e1, e2⟩
end
end RL

set_option maxHeartbeats 4000000
/-! RL25: pop(i), lists unpacked, tables -/
namespace RL
open PySem L2 PySem.Spec PyProof.Rows
def two {α : Type} : List α → Option (α × α)
  | [a, b] => some (a, b)
  | _ => none
theorem rDs.erase {K : PySem.W.Frag} {H : Hp} : ∀ {ds : List D} {us : List V} (j : Nat), rDs K ds us H → rDs K (ds.eraseIdx j) (us.eraseIdx j) H
  | [], us, j, h => by unfold rDs at h; subst h; show rDs K [] [] H; unfold rDs; rfl
  | d :: ds, us, 0, h => by
    unfold rDs at h
    obtain ⟨w, ws, rfl, r, s⟩ := h
    exact s
  | d :: ds, us, j + 1, h => by
    unfold rDs at h
    obtain ⟨w, ws, rfl, r, s⟩ := h
    show rDs K (d :: ds.eraseIdx j) (w :: ws.eraseIdx j) H
    unfold rDs
    exact ⟨w, _, rfl, r, s.erase j⟩
theorem rDs.set {K : PySem.W.Frag} {H : Hp} {d0 : D} {v0 : V} (r0 : rD K d0 v0 H) : ∀ {ds : List D} {us : List V} (j : Nat), rDs K ds us H → rDs K (ds.set j d0) (us.set j v0) H
  | [], us, j, h => by unfold rDs at h; subst h; show rDs K [] [] H; unfold rDs; rfl
  | d :: ds, us, 0, h => by
    unfold rDs at h
    obtain ⟨w, ws, rfl, r, s⟩ := h
    show rDs K (d0 :: ds) (v0 :: ws) H
    unfold rDs
    exact ⟨_, _, rfl, r0, s⟩
  | d :: ds, us, j + 1, h => by
    unfold rDs at h
    obtain ⟨w, ws, rfl, r, s⟩ := h
    show rDs K (d :: ds.set j d0) (w :: ws.set j v0) H
    unfold rDs
    exact ⟨w, _, rfl, r, rDs.set r0 j s⟩
section
variable {X : Cx} {C : Cn} {Γ Γ1 Γ2 Γ3 Γ' : Ctx} {Ts Hs : List T} {t t1 t2 t3 : T} {ts : List T} {e a b c tg iter : Expr} {es rest : List Expr} {pos p p2 nm apos cpos : Pos} {nme : Expr} {i j : Nat} {d d1 d2 d3 : D} {ds ds' : List D} {m : M} {b1 b2 k : Bool} {α β : Type} {enc f : α → D} {g : β → D} {xs ys : List α} {x y : α} {n n' : Int} {o : O} {sts : List Stmt}
theorem ee_two {q : α × α} (h : EE X C Γ Ts e Γ1 (.im (.lst (xs.map enc)))) (hq : two xs = some q) : EE X C Γ Ts e Γ1 (.im (.lst [enc q.1, enc q.2])) := by
  match xs, hq with
  | [a, b], hq =>
    cases hq
    exact h
/-! ### targets that change the heap -/
def gru (C : Cn) (Γ : Ctx) (Hs : List T) (d : D) (Γ' : Ctx) : TG := fun v σ H Q => ∃ hs, As C Γ Hs σ hs H ∧ rD C.K d v H ∧ ∀ σ' H', TF H H' → As C Γ' Hs σ' hs H' → Q σ' H'
abbrev GU (X : Cx) (C : Cn) (Hs : List T) (Γ : Ctx) (tg : Expr) (d : D) (Γ' : Ctx) : Prop := PG X tg (gru C Γ Hs d Γ')
def grus (C : Cn) (Γ : Ctx) (Hs : List T) (ds : List D) (Γ' : Ctx) : TGs := fun vs σ H Q => ∃ hs, As C Γ Hs σ hs H ∧ rDs C.K ds vs H ∧ ∀ σ' H', TF H H' → As C Γ' Hs σ' hs H' → Q σ' H'
abbrev GUs (X : Cx) (C : Cn) (Hs : List T) (Γ : Ctx) (tgs : List Expr) (ds : List D) (Γ' : Ctx) : Prop := PGs X tgs (grus C Γ Hs ds Γ')
theorem gus_nil : GUs X C Hs Γ [] [] Γ := pgs_nil.wk fun v σ H Q ⟨hs, h, r, q⟩ => by
  unfold rDs at r
  exact ⟨r, q σ H TF.refl h⟩
theorem gus_cons (h1 : GU X C Hs Γ e d Γ1) (h2 : GUs X C Hs Γ1 es ds Γ2) (hs : (assignEach (e :: es) X.env).map (·.2) = assign e X.env :: (assignEach es X.env).map (·.2) := by rfl) : GUs X C Hs Γ (e :: es) (d :: ds) Γ2 := (pgs_cons h1 h2 hs).wk fun v σ H Q ⟨hs, h, r, q⟩ => by
  unfold rDs at r
  obtain ⟨w, ws, e1, r1, r2⟩ := r
  exact ⟨w, ws, e1, hs, h, r1, fun σ1 H1 t1 h1 => ⟨hs, h1, r2.tf t1, fun σ2 H2 t2 h2 => q σ2 H2 (t1.trans t2) h2⟩⟩
theorem gu_lst {kk : Nat} (hc : X.calm = true) (h : GUs X C Hs Γ es ds Γ1) (hK : X.K = C.K := by rfl) (hn : (assignEach es X.env).length = ds.length := by rfl) (hst : (assignEach es X.env).findIdx? (·.1) = none := by rfl) : GU X C Hs Γ (.Tuple es kk pos) (.lst ds) Γ1 := (pg_lst hc h hn hst).wk fun v σ H Q ⟨hs, h, r, q⟩ => by
  unfold rD at r
  obtain ⟨a, vs, e1, r1, r2⟩ := r
  exact ⟨a, vs, e1, by rw [hK]; exact r1.sq, r2.len, hs, h, r2, q⟩
theorem s_unpU {kk : Nat} (he : EE X C Γ Hs e Γ1 (.im d)) (hg : GU X C Hs Γ1 (.Tuple es kk p) d Γ2) (hs : swapsWithSole [.Tuple es kk p] e pos.line X.env = pure false := by rfl) (hw : swappedStores [.Tuple es kk p] e X.env = pure none := by rfl)
    (h1 : (assignEach [.Tuple es kk p] X.env).map (·.2) = [assign (.Tuple es kk p) X.env] := by rfl) : S1 X C Hs Γ (.Assign [.Tuple es kk p] e pos) (.nx Γ2) :=
  (ps_asg he hg hs hw h1).wk fun σ H D ⟨⟨hs, h⟩, q⟩ => ⟨hs, h, fun v H1 h1 => ⟨hs, h1.pop, h1.topIm, fun σ' H' _ h2 => q σ' hs H' h2⟩⟩
end
end RL

set_option maxHeartbeats 4000000
/-! RL26: tables: lists of lists that change -/
namespace RL
open PySem L2 PySem.Spec PyProof.Rows
/-- things are locked, one after another -/
inductive Lk : Hp → (Hp → Prop) → Prop where
  | done {H : Hp} {P : Hp → Prop} (h : P H) : Lk H P
  | step {H : Hp} {P : Hp → Prop} {a : Addr} {u : HO} (e : H a = some u) (mu : Mut (some u)) (k : ∀ od, Lk (upd H a (.frz od u)) P) : Lk H P
theorem pss_lk {X : Cx} {sts : List Stmt} {t : TS} (h : PSs X sts t) : PSs X sts (fun D σ H => Lk H (t D σ)) := ⟨fun pins s σ H D I q => by
  generalize eP : t D σ = P at q
  induction q with
  | done z => subst eP; exact h.run pins s σ _ D I z
  | step e mu k ih =>
    obtain ⟨od, I2⟩ := I.lock e mu
    exact ih od I2 eP⟩
abbrev tbl {α : Type} (f : α → D) (rows : List (List α)) : M := .ll (rows.map fun r => .li (r.map f))
abbrev tblD {α : Type} (f : α → D) (rows : List (List α)) : D := .lst (rows.map fun r => .lst (r.map f))
theorem Lk.mono {H : Hp} {P Q : Hp → Prop} (h : Lk H P) (k : ∀ H', P H' → Q H') : Lk H Q := by
  induction h with
  | done z => exact .done (k _ z)
  | step e mu _ ih => exact .step e mu fun od => ih od k
theorem Lk.bind {H : Hp} {P Q : Hp → Prop} (h : Lk H P) (k : ∀ H', P H' → Lk H' Q) : Lk H Q := by
  induction h with
  | done z => exact k _ z
  | step e mu _ ih => exact .step e mu fun od => ih od k
/-- the rows of a table are locked -/
theorem rMs.lk {α : Type} {f : α → D} {K : PySem.W.Frag} : ∀ {rows : List (List α)} {us : List V} {F : FS} {H : Hp}, rMs K (rows.map fun r => M.li (r.map f)) us H F →
    Lk H (fun H' => rDs K (rows.map fun r => D.lst (r.map f)) us H' ∧ TF H H' ∧ ∀ a, ¬ F a → H' a = H a)
  | [], us, F, H, h => by
    have h : rMs K [] us H F := h
    unfold rMs at h
    refine .done ⟨?_, TF.refl, fun _ _ => rfl⟩
    show rDs K [] us H
    unfold rDs
    exact h.1
  | r :: rows, us, F, H, h => by
    have h : rMs K (M.li (r.map f) :: rows.map fun r => M.li (r.map f)) us H F := h
    unfold rMs at h
    obtain ⟨w, ws, Fa, Fb, rfl, r1, r2, dj, hf⟩ := h
    unfold rM at r1
    obtain ⟨a, vs, rfl, hl, rd, hF⟩ := r1
    refine .step (a := a) hl trivial fun od => ?_
    have mu : Mut (H a) := by rw [hl]; trivial
    have tf : TF H (upd H a (.frz od (.lst vs))) := TF.write mu
    have r2' : rMs K (rows.map fun r => M.li (r.map f)) ws (upd H a (.frz od (.lst vs))) Fb := rMs.st tf (fun b hb => upd_ne fun z => dj b ((hF b).2 z) hb) r2
    refine (rMs.lk r2').mono fun H' ⟨k1, k2, k3⟩ => ?_
    have ha : a ∈ [a] := by simp
    refine ⟨?_, tf.trans k2, fun b nb => ?_⟩
    · show rDs K (D.lst (r.map f) :: rows.map fun r => D.lst (r.map f)) (V.ref a :: ws) H'
      unfold rDs
      refine ⟨_, _, rfl, ?_, k1⟩
      unfold rD
      exact ⟨a, vs, rfl, .inl ⟨od, k2.2 _ _ _ upd_same⟩, (rd.tf tf).tf k2⟩
    · rw [k3 b fun z => nb ((hf b).2 (.inr z))]
      exact upd_ne fun z => nb ((hf b).2 (.inl ((hF b).2 z)))
section
variable {X : Cx} {C : Cn} {Γ Γ1 Γ2 Γ3 Γ' : Ctx} {Ts Hs : List T} {t t1 t2 t3 : T} {ts : List T} {e a b c tg iter elt : Expr} {es rest : List Expr} {pos p p2 nm apos cpos : Pos} {nme : Expr} {i j : Nat} {d d1 d2 d3 : D} {ds ds' : List D} {m : M} {b1 b2 k : Bool} {α β : Type} {enc f : α → D} {g : β → D} {xs ys : List α} {x y : α} {n n' : Int} {o : O} {sts : List Stmt} {rows : List (List α)}
/-- the table in the slot i is locked -/
theorem ss_lockT (i : Nat) (hi : Γ[i]? = some (some (tbl f rows))) (h : SS X C Hs (Γ.set i (some (.im (tblD f rows)))) sts o) : SS X C Hs Γ sts o := (pss_lk h).wk fun σ H D ⟨⟨hs, h0⟩, q⟩ => by
  obtain ⟨w, F, hw, r, up⟩ := h0.slot hi
  unfold rM at r
  obtain ⟨a, us, F0, rfl, ho, rs, hn, hf⟩ := r
  refine (rMs.lk rs).bind fun H1 ⟨k1, k2, k3⟩ => ?_
  have h1 : H1 a = some (.lst us) := (k3 a hn).trans ho
  refine .step (a := a) h1 trivial fun od => .done ⟨⟨hs, ?_⟩, q⟩
  have mu : Mut (H1 a) := by rw [h1]; trivial
  have tf : TF H1 (upd H1 a (.frz od (.lst us))) := TF.write mu
  refine up (.im (tblD f rows)) _ e0 (k2.trans tf) (fun b nb _ => (upd_ne fun z => nb ((hf b).2 (.inl z))).trans (k3 b fun z => nb ((hf b).2 (.inr z)))) ?_ fun b z => z.elim
  unfold rM
  refine ⟨?_, fun _ z => z⟩
  unfold rD
  exact ⟨a, us, rfl, .inl ⟨od, upd_same⟩, k1.tf tf⟩
/-- a cell of a table: x[i][j] = .. -/
def setT {α : Type} (rows : List (List α)) (n n' : Int) (x : α) : Option (List (List α)) := (ixN rows.length n).bind fun i => (rows[i]?).bind fun r => (ixN r.length n').map fun j => rows.set i (r.set j x)
theorem gu_cell {rows' : List (List α)} (l : Nat) (hn : PE X nme (tVar l)) (hj : Γ[l]? = some (some (tbl f rows))) (h1 : EQ X C Γ a (.int n)) (h2 : EQ X C Γ b (.int n')) (hr : setT rows n n' x = some rows') (hs : PlainIx a := by exact fun _ _ => rfl)
    (ha : ∀ v, assign (.Subscript (.Subscript nme a p) b pos) X.env v = (do
      let ov ← holding [v] (eval (.Subscript nme a p) X.env)
      let iv ← holding [v, ov] (eval b X.env)
      standAt pos
      holding [v, ov, iv] (setItem ov iv v)
      release [v, ov, iv] []) := by intro _; rfl) :
    GU X C Hs Γ (.Subscript (.Subscript nme a p) b pos) (f x) (Γ.set l (some (tbl f rows'))) := by
  obtain ⟨t1, p1, q1⟩ := h1
  obtain ⟨t2, p2, q2⟩ := h2
  refine (pg_sub (pe_ix ix_list hn p1 hs) p2 set_list ha).wk fun v σ H Q ⟨hs, h, r, q⟩ => ?_
  unfold setT at hr
  obtain ⟨i0, hi0, hr⟩ := bsplit hr
  obtain ⟨row, hrow, hr⟩ := bsplit hr
  cases hj0 : ixN row.length n' with
  | none => rw [hj0] at hr; cases hr
  | some j0 =>
    rw [hj0] at hr
    cases hr
    have sub : (tbl f rows).sub (.i n) = some (.li (row.map f)) := by
      show atI (rows.map fun r => M.li (r.map f)) n = _
      unfold atI
      rw [List.length_map, hi0]
      show (rows.map fun r => M.li (r.map f))[i0]? = _
      rw [List.getElem?_map, hrow] <;> rfl
    obtain ⟨w, a0, us, hw, ⟨pw, uw, rfl, ho, hat⟩, hl, rd, put⟩ := h.zset hj sub
    refine ⟨.ref pw, hw, q1 σ H _ _ _ h fun y ry => ?_⟩
    unfold rD at ry
    refine ⟨pw, uw, n, .ref a0, rfl, ry, SqL.of ho, hat, q2 σ H _ _ _ h fun y2 ry2 => ?_⟩
    unfold rD at ry2
    have l1 := rd.len
    rw [List.length_map] at l1
    have z := put (us.set j0 v) ((row.map f).set j0 (f x)) (rDs.set r j0 rd)
    refine ⟨a0, us, n', j0, rfl, ry2, hl, by rw [l1]; exact hj0, q σ _ (TF.write (by rw [hl]; trivial)) ?_⟩
    have e : (tbl f rows).chg (.i n) (.li ((row.map f).set j0 (f x))) = tbl f (rows.set i0 (row.set j0 x)) := by
      show M.ll (setI (rows.map fun r => M.li (r.map f)) n _) = _
      unfold setI
      rw [List.length_map, hi0]
      show M.ll ((rows.map fun r => M.li (r.map f)).set i0 (.li ((row.map f).set j0 (f x)))) = M.ll ((rows.set i0 (row.set j0 x)).map fun r => M.li (r.map f))
      rw [List.map_set, List.map_set]
    rw [e] at z
    exact z
/-! ### a table is made -/
theorem rMs.snoc {K : PySem.W.Frag} {H : Hp} {m1 : M} {y1 : V} {Fm : FS} (r : rM K m1 y1 H Fm) : ∀ {ms : List M} {us : List V} {F : FS}, rMs K ms us H F → Dj F Fm → rMs K (ms ++ [m1]) (us ++ [y1]) H (fun a => F a ∨ Fm a)
  | [], us, F, h, dj => by
    unfold rMs at h
    rw [h.1]
    show rMs K [m1] [y1] H _
    unfold rMs
    exact ⟨y1, [], Fm, e0, rfl, r, by unfold rMs; exact ⟨rfl, fun _ z => z⟩, Dj.e0r, fun a => ⟨fun z => z.elim (fun y => absurd y (h.2 a)) .inl, fun z => z.elim .inr fun y => y.elim⟩⟩
  | m0 :: ms, us, F, h, dj => by
    unfold rMs at h
    obtain ⟨w, ws, Fa, Fb, rfl, r1, r2, dj0, f⟩ := h
    have ih := rMs.snoc r r2 fun a y1 y2 => dj a ((f a).2 (.inr y1)) y2
    show rMs K (m0 :: (ms ++ [m1])) (w :: (ws ++ [y1])) H _
    unfold rMs
    refine ⟨w, _, Fa, _, rfl, r1, ih, fun a y1 y2 => y2.elim (dj0 a y1) (dj a ((f a).2 (.inl y1))), fun a => ⟨fun z => ?_, fun z => ?_⟩⟩
    · rcases z with z | z
      · exact ((f a).1 z).imp id .inl
      · exact .inr (.inr z)
    · rcases z with z | z | z
      · exact .inl ((f a).2 (.inl z))
      · exact .inl ((f a).2 (.inr z))
      · exact .inr z
theorem As.unhide {σ : L2.St} {vs : List V} {q y : V} {H : Hp} (h : As C Γ (Ts ++ [.hid m q] ++ [t]) σ (vs ++ [q] ++ [y]) H) : As C Γ (Ts ++ [.own m] ++ [t]) σ (vs ++ [q] ++ [y]) H := by
  obtain ⟨fp, W⟩ := h
  have ln := W.ln
  refine ⟨fp, W.lg, by simpa using ln, W.sl, fun k t' hk => ?_, W.dj, W.sn, W.mu, W.fr, W.pn⟩
  by_cases e : k = Ts.length
  · subst e
    have e1 : (Ts ++ [T.own m] ++ [t])[Ts.length]? = some (.own m) := by simp
    have e2 : (Ts ++ [T.hid m q] ++ [t])[Ts.length]? = some (.hid m q) := by simp
    rw [e1] at hk
    cases hk
    obtain ⟨v, hv, _, r⟩ := W.tp _ _ e2
    exact ⟨v, hv, r⟩
  · have e3 : (Ts ++ [T.hid m q] ++ [t])[k]? = some t' := by
      by_cases hl : k < Ts.length
      · simp only [List.append_assoc] at hk ⊢
        rw [List.getElem?_append_left hl] at hk ⊢
        exact hk
      · have hl2 : Ts.length ≤ k := by omega
        simp only [List.append_assoc] at hk ⊢
        rw [List.getElem?_append_right hl2] at hk ⊢
        obtain ⟨k', hk'⟩ : ∃ k', k - Ts.length = k' + 1 := ⟨k - Ts.length - 1, by omega⟩
        rw [hk'] at hk ⊢
        simpa using hk
    exact W.tp _ _ e3
/-- a new thing goes into the list that is made -/
theorem As.absorb {σ : L2.St} {vs : List V} {q y : V} {H : Hp} {acc : List M} (h : As C Γ (Ts ++ [.hid (.ll acc) q] ++ [.own m]) σ (vs ++ [q] ++ [y]) H) : ∃ a us, q = .ref a ∧ H a = some (.lst us) ∧ us.length = acc.length ∧
    As C Γ (Ts ++ [.hid (.ll (acc ++ [m])) q]) σ (vs ++ [q]) (upd H a (.lst (us ++ [y]))) := by
  have h1 := h.unhide
  have h2 : As C Γ (Ts ++ [M.ll acc, m].map T.own) σ (vs ++ [q, y]) H := by simpa using h1
  obtain ⟨fp, G, B⟩ := blob_own h2 rfl
  have r := B.r
  unfold rMs at r
  obtain ⟨w, ws, F1, F2, e, r1, r2, dj, f⟩ := r
  cases e
  unfold rMs at r2
  obtain ⟨w2, ws2, F3, F4, e, r3, r4, dj2, f2⟩ := r2
  cases e
  unfold rMs at r4
  have n4 := r4.2
  unfold rM at r1
  obtain ⟨a, us, F0, rfl, ho, rs, hn, hf⟩ := r1
  have mu : Mut (H a) := by rw [ho]; trivial
  have tf : TF H (upd H a (.lst (us ++ [y]))) := TF.write mu
  have F3a : ∀ b, F2 b ↔ F3 b := fun b => ⟨fun z => ((f2 b).1 z).elim id fun z => absurd z (n4 b), fun z => (f2 b).2 (.inl z)⟩
  have na3 : ¬ F3 a := fun z => dj a ((hf a).2 (.inl rfl)) ((F3a a).2 z)
  have dj3 : Dj F0 F3 := fun b z1 z2 => dj b ((hf b).2 (.inr z1)) ((F3a b).2 z2)
  have rn := rMs.snoc (r3.st tf (fun b hb => upd_ne fun z => na3 (z ▸ hb))) (rMs.st tf (fun b hb => upd_ne fun z => hn (z ▸ hb)) rs) dj3
  refine ⟨a, us, rfl, ho, rs.len, ?_⟩
  have B2 := B.chg (H' := upd H a (.lst (us ++ [y]))) (G' := G) (ms' := [.ll (acc ++ [m])]) (us' := [.ref a]) (fun b o e ng => (upd_ne fun z => ng ((f b).2 (.inl ((hf b).2 (.inl z))))).trans e) (by
    unfold rMs
    refine ⟨_, [], G, e0, rfl, ?_, by unfold rMs; exact ⟨rfl, fun _ z => z⟩, Dj.e0r, fun b => ⟨.inl, fun z => z.elim id fun y => y.elim⟩⟩
    unfold rM
    refine ⟨a, _, _, rfl, upd_same, rn, fun z => z.elim hn na3, fun b => ⟨fun z => ?_, fun z => ?_⟩⟩
    · rcases (f b).1 z with z | z
      · exact ((hf b).1 z).imp id .inl
      · exact .inr (.inr ((F3a b).1 z))
    · rcases z with z | z | z
      · exact (f b).2 (.inl ((hf b).2 (.inl z)))
      · exact (f b).2 (.inl ((hf b).2 (.inr z)))
      · exact (f b).2 (.inr ((F3a b).2 z))) fun b z => .inl z
  obtain ⟨fq, G2, B3⟩ := B2.uncons
  exact B3.as.hide
end
end RL

set_option maxHeartbeats 4000000
/-! RL27: comprehensions that make lists of new things -/
namespace RL
open PySem L2 PySem.Spec PyProof.Rows
section
variable {X : Cx} {C : Cn} {Γ Γ1 Γ2 Γ0 Γ' : Ctx} {Ts Hs : List T} {t : T} {e a b c tg iter elt : Expr} {pos p nm spos : Pos} {i j : Nat} {d : D} {ds : List D} {m : M} {k : Bool} {hx : V → T} {cond : Ctx → Prop} {α : Type} {enc : α → D} {mr : α → M} {xs : List α} {Γt : α → Ctx} {own : List (Str × Nat)} {scope : Scope} {n n' : Int}
structure LcL (X : Cx) (C : Cn) (Ts : List T) (Γ : Ctx) (tg iter elt : Expr) (scope : Scope) (own : List (Str × Nat)) (mr : α → M) (enc : α → D) (xs : List α) (Γ0 : Ctx) (Γt : α → Ctx) (hx : V → T) (cond : Ctx → Prop) : Prop where
  fx : Fix hx
  it : IT X C Ts tg iter Γ Γ0 hx cond (xs.map enc)
  cd : cond Γ0
  gt : ∀ (s : Shared) (H : Hp) (Ca : Addr) (cl : List (Str × Addr)) (fp : List Addr) (v q : V) (acc : List M) (x : α), GT (X.blk s H scope (compEnvC scope cl Ca X.env) fp) C (Ts ++ [hx v] ++ [.hid (.ll acc) q]) Γ0 tg (enc x) (Γt x) (own.map (·.2))
  el : ∀ (s : Shared) (H : Hp) (Ca : Addr) (cl : List (Str × Addr)) (fp : List Addr) (v q : V) (acc : List M) (x : α), EE (X.blk s H scope (compEnvC scope cl Ca X.env) fp) C (Γt x) (Ts ++ [hx v] ++ [.hid (.ll acc) q]) elt Γ0 (.own (mr x))
  br : Bare (own.map (·.2)) Γ0
  fr : FreeJ (own.map (·.2)) Ts
  fh : ∀ v, FreeJ (own.map (·.2)) [hx v]
  pn : ∀ p ∈ C.pin, p.1 ∉ own.map (·.2)
  ln : xs.length ≤ sizeLine
def llG (C : Cn) (Ts : List T) (own : List (Str × Nat)) (enc : α → D) (Γ0 : Ctx) (Γt : α → Ctx) (hx : V → T) : TG := fun v σ H Q => ∃ q : V × V × List M × α, True ∧ gr C Γ0 (Ts ++ [hx q.1] ++ [.hid (.ll q.2.2.1) q.2.1]) (enc q.2.2.2) (Γt q.2.2.2) (own.map (·.2)) v σ H Q
def llE (C : Cn) (Ts : List T) (mr : α → M) (Γ0 : Ctx) (Γt : α → Ctx) (hx : V → T) : TE := fun σ H Q => ∃ q : V × V × List M × α, True ∧ er C (Γt q.2.2.2) (Ts ++ [hx q.1] ++ [.hid (.ll q.2.2.1) q.2.1]) Γ0 (.own (mr q.2.2.2)) σ H Q
theorem LcL.sat (L : LcL X C Ts Γ tg iter elt scope own mr enc xs Γ0 Γt hx cond) {σ : L2.St} {vs : List V} {H : Hp} {Q : VK} (h0 : As C Γ Ts σ vs H) (q : ∀ z H', As C Γ0 (Ts ++ [.own (.ll (xs.map mr))]) σ (vs ++ [z]) H' → Q z H') :
    tLc (ir C Γ Ts Γ0 hx cond (xs.map enc)) (llG C Ts own enc Γ0 Γt hx) tYes (llE C Ts mr Γ0 Γt hx) (own.map (·.2)) σ H Q := by
  refine ⟨vs, h0, fun v Ji H1 hA ⟨G, Y, w, g1, g2⟩ Dd hD => ?_⟩
  rw [List.length_map] at w g2
  have fr2 : FreeJ (own.map (·.2)) (Ts ++ [hx v]) := fun i hi => (L.fr i hi).append (L.fh v i hi)
  have fr3 : ∀ acc, FreeJ (own.map (·.2)) (Ts ++ [hx v] ++ [.hid (.ll acc) (.ref Dd)]) := fun acc i hi => (fr2 i hi).append ⟨trivial, trivial⟩
  have hA1 : As C Γ0 (Ts ++ [hx v]) (wipe σ (own.map (·.2))) (vs ++ [v]) H1 := hA.sig (wipe_length _ _) (fun i hi => wipe_out hi) L.br fr2 L.pn
  have hA2 : As C Γ0 (Ts ++ [hx v] ++ [.hid (.ll []) (.ref Dd)]) (wipe σ (own.map (·.2))) (vs ++ [v] ++ [.ref Dd]) (upd H1 Dd (.lst [])) := by
    refine hA1.push (Ext.new hD) (t := .hid (.ll []) (.ref Dd)) (F := fun a => a = Dd) ⟨rfl, ?_⟩ (fun a e => by rw [e]; exact hD) fun a e => by rw [e, upd_same]; trivial
    unfold rM
    refine ⟨Dd, [], e0, rfl, upd_same, by unfold rMs; exact ⟨rfl, fun _ z => z⟩, fun z => z, fun b => ⟨.inl, fun z => z.elim id fun y => y.elim⟩⟩
  refine lc_it (g := llG C Ts own enc Γ0 Γt hx) (tt := tYes) (te := llE C Ts mr Γ0 Γt hx) w (fun i H => ∃ (acc : List M), As C Γ0 (Ts ++ [hx v] ++ [.hid (.ll acc) (.ref Dd)]) (wipe σ (own.map (·.2))) (vs ++ [v] ++ [.ref Dd]) H ∧ xs.map mr = acc ++ (xs.drop i).map mr ∧ acc.length ≤ i)
    ⟨[], hA2, by simp, Nat.le_refl _⟩ (fun i H hi ⟨acc, hB, _⟩ => g1 _ _ _ H L.cd hB.pop) (fun i x H H' hi ⟨acc, hB, hy, hlen⟩ y => ?_) (fun H ⟨acc, hB, hy, _⟩ => ?_)
  · obtain ⟨ex, d, hd, rd⟩ := g2 i H x H' hi (g1 _ _ _ H L.cd hB.pop) y
    rw [List.getElem?_map, List.getElem?_eq_getElem hi] at hd
    cases hd
    refine ⟨(v, .ref Dd, acc, xs[i]), trivial, _, hB.ext ex, rd, fun σ2 ag h2 => ?_⟩
    refine ⟨by rw [wipe_of ag, wipe_wipe], ?_⟩
    have ag2 : Agree (own.map (·.2)) (wipe σ (own.map (·.2))) σ2 := ag
    unfold tYes
    dsimp only
    rw [if_pos rfl]
    refine ⟨(v, .ref Dd, acc, xs[i]), trivial, _, h2, fun yv H4 h4 => ?_⟩
    obtain ⟨a5, us5, ea, hl5, l5, h6⟩ := h4.absorb
    cases ea
    refine ⟨us5, hl5, by rw [l5]; exact Nat.lt_of_le_of_lt hlen (Nat.lt_of_lt_of_le hi L.ln), acc ++ [mr xs[i]], ?_, ?_, by simp; omega⟩
    · exact h6.sig (by rw [ag2.1]) (fun i hi => (ag2.2 i hi).symm) L.br (fr3 _) L.pn
    · rw [hy, List.drop_eq_getElem_cons hi, List.map_cons, List.append_assoc]
      rfl
  · rw [List.drop_length, List.map_nil, List.append_nil] at hy
    rw [← hy] at hB
    have h7 : As C Γ0 (Ts ++ [.own (.ll (xs.map mr))]) (wipe σ (own.map (·.2))) (vs ++ [.ref Dd]) H := by
      obtain ⟨F, ⟨_, r⟩, up⟩ := hB.top
      have z : As C Γ0 (Ts ++ [hx v] ++ [.own (.ll (xs.map mr))]) (wipe σ (own.map (·.2))) (vs ++ [v] ++ [.ref Dd]) H := up (.own (.ll (xs.map mr))) (.ref Dd) H F TF.refl (fun _ _ _ => rfl) r (fun a ha => .inl ha) fun a ha => rM.mut r ha
      exact z.mid
    exact q (.ref Dd) H (h7.sig (wipe_length _ _).symm (fun i hi => (wipe_out hi).symm) L.br (fun i hi => (L.fr i hi).append ⟨trivial, trivial⟩) L.pn)
theorem s_setLcL (i : Nat) {y : Str} {py : Pos} (hcm : X.calm = true) (hN : X.N.Nodup) (hy : X.N[i]? = some y) (hyl : X.env.scope.names.lookup y = some .local) (hp : ∀ p ∈ C.pin, p.1 ≠ i) (hf : Free i Hs) (ok : BlkOk X.N X.env.scope scope own) (L : LcL X C Hs Γ tg iter elt scope own mr enc xs Γ0 Γt hx cond)
    (hsw : swapsWith (.ListComp elt [⟨tg, iter, [], 0⟩] scope pos) (some (.Name y py)) spos.line X.env = pure true) (hs : ∀ x, foldedSetIterable iter X.env x = pure x := by intro _; rfl) :
    S1 X C Hs Γ (.Assign [.Name y py] (.ListComp elt [⟨tg, iter, [], 0⟩] scope pos) spos) (.nx (Γ0.set i (some (.ll (xs.map mr))))) := by
  have r := ps_setLc (pos := pos) (spos := spos) hcm hN hy hyl hsw L.it ok (g := llG C Hs own enc Γ0 Γt hx) (tt := tYes) (te := llE C Hs mr Γ0 Γt hx)
    (fun s H Ca cl fp => PG.ex (ι := V × V × List M × α) (P := fun _ => True) fun q _ => L.gt s H Ca cl fp q.1 q.2.1 q.2.2.1 q.2.2.2)
    (fun s H Ca cl fp => pts_nil)
    (fun s H Ca cl fp => PE.ex (ι := V × V × List M × α) (P := fun _ => True) fun q _ => L.el s H Ca cl fp q.1 q.2.1 q.2.2.1 q.2.2.2) hs
  exact r.wk fun σ H D ⟨⟨vs, h0⟩, q⟩ => L.sat h0 fun z H' h' => q _ vs H' (h'.set hp hf)
/-- list(range(n)) -/
theorem ee_listRg {p2 : Pos} (hcm : X.calm = true) (hml : X.mg "list" = none) (hmr : X.mg "range" = none) (h : EE X C Γ Ts a Γ1 (.im (.int n))) (h0 : 0 ≤ n) (hb : n ≤ 1000000) (hgl : Gl X "list" := by rfl) (hgr : Gl X "range" := by rfl)
    (he : starEach [a] X.env = (false, eval a X.env) :: starEach [] X.env := by rfl) (he2 : starEach [.Call (.Name "range" p2) [a] [] nm] X.env = (false, eval (.Call (.Name "range" p2) [a] [] nm) X.env) :: starEach [] X.env := by rfl) :
    EE X C Γ Ts (.Call (.Name "list" p) [.Call (.Name "range" p2) [a] [] nm] [] pos) Γ1 (.own (.li ((rng 0 n).map D.int))) :=
  (pe_listRg hcm hgl hml (prg_1 hgr hmr h he) he2).wk fun σ H Q ⟨vs, h, q⟩ => ⟨vs, h, fun v H1 h1 => by
    have e := h1.topIm
    unfold rD at e
    subst e
    refine ⟨n, rfl, RgOk.of_le (by omega) (by omega) (by omega) h0, fun w hw => q _ _ (h1.pop.push (Ext.new hw) (t := .own (.li ((rng 0 n).map D.int))) (F := fun x => x = w) ?_ (fun x e => by rw [e]; exact hw) fun x e => by rw [e, upd_same]; trivial)⟩
    show rM _ _ _ _ _
    unfold rM
    refine ⟨w, _, rfl, upd_same, ?_, fun _ => Iff.rfl⟩
    unfold rgV rng
    have : ∀ l : List Nat, rDs C.K ((l.map fun i => (0 : Int) + (i : Nat)).map D.int) (l.map fun i => V.int (0 + (i : Nat))) (upd H1 w (.lst (rgV 0 n))) := fun l => by
      induction l with
      | nil => show rDs C.K [] [] _; unfold rDs; rfl
      | cons x l ih =>
        show rDs C.K (D.int _ :: _) (V.int _ :: _) _
        unfold rDs
        exact ⟨_, _, rfl, by unfold rD; rfl, ih⟩
    exact this _⟩
end
end RL

set_option maxHeartbeats 4000000
/-! RL28: names in any order, written dicts looked up -/
namespace RL
open PySem L2 PySem.Spec PyProof.Rows
/-- what is called by names comes in the order of p -/
def prm {α : Type} (p : List Nat) : List α → List α → List α
  | [], ws => p.filterMap fun i => ws[i]?
  | _, _ => []
theorem valsFm {vs : List V} {us : List Value} (r : Vals vs us) : ∀ p : List Nat, Vals (p.filterMap fun i => vs[i]?) (p.filterMap fun i => us[i]?)
  | [] => .nil
  | i :: p => by
    rw [List.filterMap_cons, List.filterMap_cons]
    have l := r.length
    cases e : vs[i]? with
    | none =>
      have e2 : us[i]? = none := by
        rw [List.getElem?_eq_none_iff] at e ⊢
        omega
      rw [e2]
      exact valsFm r p
    | some v =>
      obtain ⟨u, hu, ru⟩ := r.get e
      rw [hu]
      exact .cons ru (valsFm r p)
theorem prm_rel {p : List Nat} {vs : List V} {us : List Value} {zs : List V} {ws : List Value} (r1 : Vals vs us) (r2 : Vals zs ws) : Vals (prm p vs zs) (prm p us ws) := by
  cases r1 with
  | nil => exact valsFm r2 p
  | cons a r1 => exact .nil
theorem rDs.fm {K : PySem.W.Frag} {H : Hp} {ds : List D} {zs : List V} (h : rDs K ds zs H) : ∀ p : List Nat, rDs K (p.filterMap fun i => ds[i]?) (p.filterMap fun i => zs[i]?) H
  | [] => by show rDs K [] [] H; unfold rDs; rfl
  | i :: p => by
    rw [List.filterMap_cons, List.filterMap_cons]
    have l := h.len
    cases e : ds[i]? with
    | none =>
      have e2 : zs[i]? = none := by
        rw [List.getElem?_eq_none_iff] at e ⊢
        omega
      rw [e2]
      exact h.fm p
    | some d =>
      obtain ⟨u, hu, ru⟩ := h.get e
      rw [hu]
      show rDs K (d :: _) (u :: _) H
      unfold rDs
      exact ⟨u, _, rfl, ru, h.fm p⟩
theorem prm_rD {K : PySem.W.Frag} {p : List Nat} {ds : List D} {zs : List V} {H : Hp} (h : rDs K ds zs H) : rDs K (p.filterMap fun i => ds[i]?) (prm p [] zs) H := h.fm p
section
variable {X : Cx} {C : Cn} {Γ Γ1 Γ2 : Ctx} {Ts Hs : List T} {e : Expr} {sts : List Stmt} {o : O} {α β : Type} {f : α → D} {r : List α} {rows : List (List α)} {xs : List β}
end
section
variable {X : Cx} {C : Cn} {Γ Γ1 Γ2 : Ctx} {Ts Hs : List T} {a b : Expr} {pos : Pos} {α : Type} {f : α → D} {l : List (Str × α)} {x : Str} {y : α}
end
theorem ee_to {X : Cx} {C : Cn} {Γ Γ1 : Ctx} {Ts : List T} {e : Expr} {d d2 : D} (h : EE X C Γ Ts e Γ1 (.im d)) (z : d = d2) : EE X C Γ Ts e Γ1 (.im d2) := z ▸ h
end RL

set_option maxHeartbeats 4000000
/-! RL29: typed data compared -/
namespace RL
open PySem L2
/-- == of typed data is their being equal -/
structure EqT {α : Type} [DecidableEq α] (f : α → D) (k : Nat) : Prop where
  ok : ∀ x, (f x).ok = true
  dp : ∀ x, (f x).p.depth ≤ k
  eq : ∀ x y, PyData.eqv (f x).p (f y).p = decide (x = y)
theorem eqt_int {k : Nat} : EqT D.int k := ⟨fun x => by unfold D.ok; rfl, fun x => by unfold D.p PyData.depth; omega, fun x y => by
  unfold D.p PyData.eqv
  by_cases e : x = y <;> simp [e]⟩
theorem eqt_bl {k : Nat} : EqT D.bl k := ⟨fun x => by unfold D.ok; rfl, fun x => by unfold D.p PyData.depth; omega, fun x y => by
  unfold D.p PyData.eqv
  by_cases e : x = y <;> simp [e]⟩
theorem eqt_tl {α : Type} [DecidableEq α] {f : α → D} {k : Nat} (a : EqT f k) : EqT (eTL f) (k + 1) := by
  have dl : ∀ l : List α, PyData.depthAll (ps (l.map f)) ≤ k := fun l => by
    induction l with
    | nil => show PyData.depthAll (ps []) ≤ k; unfold ps PyData.depthAll; omega
    | cons x l ih => show PyData.depthAll (ps (f x :: l.map f)) ≤ k; unfold ps PyData.depthAll; have := a.dp x; omega
  have el : ∀ l m : List α, PyData.eqvAll (ps (l.map f)) (ps (m.map f)) = decide (l = m) := fun l => by
    induction l with
    | nil => intro m; cases m with
      | nil => show PyData.eqvAll (ps []) (ps []) = _; unfold ps PyData.eqvAll; rfl
      | cons y m => show PyData.eqvAll (ps []) (ps (f y :: m.map f)) = _; unfold ps PyData.eqvAll; simp
    | cons x l ih => intro m; cases m with
      | nil => show PyData.eqvAll (ps (f x :: l.map f)) (ps []) = _; unfold ps PyData.eqvAll; simp
      | cons y m =>
        show PyData.eqvAll (ps (f x :: l.map f)) (ps (f y :: m.map f)) = _
        unfold ps PyData.eqvAll
        rw [a.eq, ih m]
        simp [Bool.decide_and]
  refine ⟨fun x => ?_, fun x => ?_, fun x y => ?_⟩
  · unfold eTL D.ok; exact oks_map f fun x _ => a.ok x
  · unfold eTL D.p PyData.depth; have := dl x; omega
  · unfold eTL D.p PyData.eqv; exact el x y
section
variable {X : Cx} {C : Cn} {Γ Γ1 Γ2 : Ctx} {Ts : List T} {a b : Expr} {pos : Pos} {α : Type} [DecidableEq α] {f : α → D} {k : Nat} {x y : α}
theorem et_neT (hu : X.A.units + 64 < cLine) (E : EqT f k) (hk : k ≤ 20) (h1 : EE X C Γ Ts a Γ1 (.im (f x))) (h2 : EE X C Γ1 (Ts ++ [.im (f x)]) b Γ2 (.im (f y))) (hK : X.K = C.K := by rfl) : ET X C Γ Ts (.Compare a [.NotEq] [b] pos) Γ2 (!decide (x = y)) :=
  et_neB hu h1 h2 (.im (E.ok x)) (.im (E.ok y)) (by have := E.dp x; omega) (congrArg not (E.eq x y)) hK
end
/-- the test of a comprehension that may fall short -/
def tbo (o : Option Bool) : Bool := o.getD false
theorem tbo_t {o : Option Bool} {t : Bool} (h : o = some t) : tbo o = t := by rw [h] <;> rfl
section
variable {X : Cx} {C : Cn} {Γ Γ1 Γ2 : Ctx} {Ts : List T} {a b : Expr} {pos : Pos} {o : Option Int} {n : Int}
end
section
variable {X : Cx} {C : Cn} {Γ Γ1 Γ2 : Ctx} {Ts Hs : List T} {a b e tg nme : Expr} {pos p : Pos} {α : Type} {f : α → D} {xs ys : List α} {x : α} {n : Int} {d : D}
theorem s_asgU (he : EE X C Γ Hs e Γ1 (.im d)) (hg : GU X C Hs Γ1 tg d Γ2) (hs : swapsWithSole [tg] e pos.line X.env = pure false := by rfl) (hw : swappedStores [tg] e X.env = pure none := by rfl)
    (h1 : (assignEach [tg] X.env).map (·.2) = [assign tg X.env] := by rfl) : S1 X C Hs Γ (.Assign [tg] e pos) (.nx Γ2) :=
  (ps_asg he hg hs hw h1).wk fun σ H D ⟨⟨hs, h⟩, q⟩ => ⟨hs, h, fun v H1 h1 => ⟨hs, h1.pop, h1.topIm, fun σ' H' _ h2 => q σ' hs H' h2⟩⟩
end
section
variable {X : Cx} {C : Cn} {Γ Γ1 : Ctx} {Hs : List T} {a : Expr} {pos p : Pos} {ds : List D}
end
end RL

set_option maxHeartbeats 2000000
/-! RL30: plain: what comes to something, and of which something holds -/
namespace RL
open PySem L2
abbrev W {α : Type} (o : Option α) (P : α → Prop) : Prop := ∃ a, o = some a ∧ P a
section
variable {α β S R : Type} {P : β → Prop} {Q : α → Prop} {o : Option α} {f : α → Option β} {x y : Option β} {c : Bool} {p : Prop}
theorem W.s {b : β} (h : P b) : W (some b) P := ⟨b, rfl, h⟩
theorem W.b (h : W o Q) (k : ∀ a, Q a → W (f a) P) : W (o.bind f) P := by
  obtain ⟨a, e, q⟩ := h
  rw [e]
  exact k a q
theorem W.e {a : α} (h : o = some a) (k : W (f a) P) : W (o.bind f) P := by rw [h]; exact k
theorem W.g [Decidable p] {f : Unit → Option β} (h : p) (k : W (f ()) P) : W ((gd (decide p)).bind f) P := by rw [gdd h]; exact k
theorem W.gb {f : Unit → Option β} (h : c = true) (k : W (f ()) P) : W ((gd c).bind f) P := by rw [gd_ok h]; exact k
theorem W.i (h1 : c = true → W x P) (h2 : c = false → W y P) : W (if c = true then x else y) P := iex h1 h2
theorem W.ip [Decidable p] (h1 : p → W x P) (h2 : ¬ p → W y P) : W (if decide p = true then x else y) P := W.i (fun h => h1 (of_decide_eq_true h)) fun h => h2 (of_decide_eq_false h)
theorem W.m {P' : β → Prop} (h : W x P') (k : ∀ b, P' b → P b) : W x P := by
  obtain ⟨b, e, q⟩ := h
  exact ⟨b, e, k b q⟩
theorem W.eq {b : β} (h : W x fun y => y = b) : x = some b := by
  obtain ⟨a, e, rfl⟩ := h
  exact e
theorem W.of {b : β} (h : x = some b) (q : P b) : W x P := ⟨b, h, q⟩
theorem W.val {b : β} (h : W x P) (e : x = some b) : P b := by
  obtain ⟨a, e2, q⟩ := h
  rw [e] at e2
  cases e2
  exact q
/-- a loop without an exit, by what it keeps; the items told that are behind -/
theorem W.forS {f : S → α → Option S} (Inv : List α → S → Prop) {xs : List α} {s : S} (h0 : Inv [] s) (st : ∀ zs x s, (∃ r, xs = zs ++ x :: r) → Inv zs s → W (f s x) fun s' => Inv (zs ++ [x]) s') : W (RL.forS f s xs) fun s' => Inv xs s' := by
  suffices g : ∀ (ys zs : List α) (s : S), xs = zs ++ ys → Inv zs s → W (RL.forS f s ys) fun s' => Inv xs s' from g xs [] s rfl h0
  intro ys
  induction ys with
  | nil => intro zs s e i; exact ⟨s, rfl, by rw [e, List.append_nil]; exact i⟩
  | cons y ys ih =>
    intro zs s e i
    show W ((f s y).bind fun s' => RL.forS f s' ys) _
    exact W.b (st zs y s ⟨ys, e⟩ i) fun s' i' => ih (zs ++ [y]) s' (by rw [e]; simp) i'
theorem W.forS1 {f : S → α → Option S} (Inv : S → Prop) {xs : List α} {s : S} (h0 : Inv s) (st : ∀ x ∈ xs, ∀ s, Inv s → W (f s x) Inv) : W (RL.forS f s xs) Inv :=
  W.forS (fun _ => Inv) h0 fun zs x s ⟨r, e⟩ i => st x (by rw [e]; simp) s i
theorem W.forO1 {f : S → α → Option (Out S R)} (Inv : S → Prop) (Rt : R → Prop) : ∀ {xs : List α} {s : S}, Inv s → (∀ x ∈ xs, ∀ s, Inv s → W (f s x) fun o => (∃ s', (o = .nx s' ∨ o = .ct s') ∧ Inv s') ∨ (∃ s', o = .bk s' ∧ Inv s') ∨ ∃ r, o = .rt r ∧ Rt r) → W (RL.forO f s xs) fun o => (∃ s', o = .nx s' ∧ Inv s') ∨ ∃ r, o = .rt r ∧ Rt r
  | [], s, h0, _ => ⟨_, rfl, .inl ⟨s, rfl, h0⟩⟩
  | x :: xs, s, h0, st => by
    obtain ⟨o, e, q⟩ := st x (by simp) s h0
    unfold RL.forO
    rw [e]
    rcases q with ⟨s', e' | e', i⟩ | ⟨s', e', i⟩ | ⟨r, e', i⟩
    · subst e'; exact W.forO1 Inv Rt i fun y hy => st y (by simp [hy])
    · subst e'; exact W.forO1 Inv Rt i fun y hy => st y (by simp [hy])
    · subst e'; exact ⟨_, rfl, .inl ⟨s', rfl, i⟩⟩
    · subst e'; exact ⟨_, rfl, .inr ⟨r, rfl, i⟩⟩
theorem W.forO {f : S → α → Option (Out S R)} (Inv : List α → S → Prop) (Rt : R → Prop) {xs : List α} {s : S} (h0 : Inv [] s) (st : ∀ zs x s, (∃ r, xs = zs ++ x :: r) → Inv zs s → W (f s x) fun o => (∃ s', o = .nx s' ∧ Inv (zs ++ [x]) s') ∨ ∃ r, o = .rt r ∧ Rt r) : W (RL.forO f s xs) fun o => (∃ s', o = .nx s' ∧ Inv xs s') ∨ ∃ r, o = .rt r ∧ Rt r := by
  suffices g : ∀ (ys zs : List α) (s : S), xs = zs ++ ys → Inv zs s → W (RL.forO f s ys) fun o => (∃ s', o = .nx s' ∧ Inv xs s') ∨ ∃ r, o = .rt r ∧ Rt r from g xs [] s rfl h0
  intro ys
  induction ys with
  | nil => intro zs s e i; exact ⟨_, rfl, .inl ⟨s, rfl, by rw [e, List.append_nil]; exact i⟩⟩
  | cons y ys ih =>
    intro zs s e i
    obtain ⟨o, eo, q⟩ := st zs y s ⟨ys, e⟩ i
    unfold RL.forO
    rw [eo]
    rcases q with ⟨s', e', i'⟩ | ⟨r, e', i'⟩
    · subst e'; exact ih (zs ++ [y]) s' (by rw [e]; simp) i'
    · subst e'; exact ⟨_, rfl, .inr ⟨r, rfl, i'⟩⟩
theorem W.kk {T : Type} {Q1 : T → Prop} {o : Out S R} {f : S → Option T} {g : R → Option T} {I : S → Prop} {J : R → Prop} (h : (∃ s, o = .nx s ∧ I s) ∨ ∃ r, o = .rt r ∧ J r) (k1 : ∀ s, I s → W (f s) Q1) (k2 : ∀ r, J r → W (g r) Q1) : W (o.k f g) Q1 := by
  rcases h with ⟨s, rfl, i⟩ | ⟨r, rfl, j⟩
  · exact k1 s i
  · exact k2 r j
/-- a loop that is never left early -/
theorem W.forOn {f : S → α → Option (Out S R)} (Inv : S → Prop) {xs : List α} {s : S} (h0 : Inv s) (st : ∀ x ∈ xs, ∀ s, Inv s → W (f s x) fun o => ∃ s', o = .nx s' ∧ Inv s') : W (RL.forO f s xs) fun o => ∃ s', o = .nx s' ∧ Inv s' :=
  (W.forO1 Inv (fun _ => False) h0 fun x hx s i => (st x hx s i).m fun o ⟨s', e, i'⟩ => .inl ⟨s', .inl e, i'⟩).m fun o h => by
    rcases h with h | ⟨r, _, z⟩
    · exact h
    · exact z.elim
theorem W.k {T : Type} {Q1 : T → Prop} {o : Out S R} {f : S → Option T} {g : R → Option T} (h : ∃ s, o = .nx s ∧ W (f s) Q1) : W (o.k f g) Q1 := by
  obtain ⟨s, rfl, q⟩ := h
  exact q
/-- a comprehension without a test, drawing along -/
theorem W.lcM {f : S → α → Option (S × Option β)} (Inv : S → Prop) (E : α → β → Prop) {xs : List α} {s : S} (h0 : Inv s) (st : ∀ x ∈ xs, ∀ s, Inv s → W (f s x) fun p => Inv p.1 ∧ ∃ y, p.2 = some y ∧ E x y) :
    W (RL.lcM f s xs) fun q => Inv q.1 ∧ q.2.length = xs.length ∧ ∀ (i : Nat) x y, xs[i]? = some x → q.2[i]? = some y → E x y := by
  induction xs generalizing s with
  | nil => exact ⟨_, rfl, h0, rfl, fun i x y h => by simp at h⟩
  | cons x xs ih =>
    unfold RL.lcM
    refine W.b (st x (by simp) s h0) fun p ⟨i1, y, ey, e1⟩ => W.b (ih i1 fun z hz => st z (by simp [hz])) fun q ⟨i2, l2, e2⟩ => ⟨_, rfl, i2, ?_, ?_⟩
    · rw [ey]; show (y :: q.2).length = _; simp [l2]
    · rw [ey]
      intro i a b ha hb
      cases i with
      | zero => simp at ha hb; subst ha hb; exact e1
      | succ i => exact e2 i a b (by simpa using ha) (by simpa using hb)
/-- a comprehension the elements of which are told -/
theorem lcM_tot {f : Unit → α → Option (Unit × Option β)} {g : α → β} {xs : List α} (h : ∀ x ∈ xs, f () x = some ((), some (g x))) : RL.lcM f () xs = some ((), xs.map g) := by
  induction xs with
  | nil => rfl
  | cons x xs ih =>
    unfold RL.lcM
    rw [h x (by simp)]
    show ((RL.lcM f () xs).bind _) = _
    rw [ih fun y hy => h y (by simp [hy])] <;> rfl
theorem lcM_totF {f : Unit → α → Option (Unit × Option β)} {t : α → Bool} {g : α → β} {xs : List α} (h : ∀ x ∈ xs, f () x = some ((), if t x = true then some (g x) else none)) : RL.lcM f () xs = some ((), (xs.filter t).map g) := by
  induction xs with
  | nil => rfl
  | cons x xs ih =>
    unfold RL.lcM
    rw [h x (by simp)]
    show ((RL.lcM f () xs).bind _) = _
    rw [ih fun y hy => h y (by simp [hy])]
    cases q : t x with
    | true => rw [List.filter_cons_of_pos q] <;> rfl
    | false => rw [List.filter_cons_of_neg (by simp [q])] <;> rfl
theorem W.wh {c : S → Bool} {f : S → Option S} (Inv : S → Prop) (μ : S → Nat) {n : Nat} {s : S} (h0 : Inv s) (hm : μ s < n) (st : ∀ s, Inv s → c s = true → W (f s) fun s' => Inv s' ∧ μ s' < μ s) : W (RL.whS c f n s) fun s' => Inv s' ∧ c s' = false := whS_ex Inv μ st h0 hm
end
/-! ### numbers, places -/
theorem big {n : Nat} (h : n ≤ 1000000) : n ≤ sizeLine := Nat.le_trans h (by decide)
theorem bigl {n : Nat} (h : n ≤ 1000000) : n < sizeLine := Nat.lt_of_le_of_lt h (by decide)
section
variable {α β : Type} {xs ys : List α} {x y : α} {i : Int} {k : Nat}
theorem atI_some (h0 : 0 ≤ i) (h : xs[i.toNat]? = some x) : atI xs i = some x := by
  have e : ((i.toNat : Nat) : Int) = i := by omega
  rw [← e]
  exact RL.atI_nat h
theorem atI_get (h0 : 0 ≤ i) (h : i < xs.length) : atI xs i = some (xs[i.toNat]'(by omega)) := atI_some h0 (List.getElem?_eq_getElem (by omega))
theorem atI_W (h0 : 0 ≤ i) (h : i < xs.length) : W (atI xs i) fun x => x ∈ xs ∧ xs[i.toNat]? = some x := ⟨_, atI_get h0 h, List.getElem_mem _, List.getElem?_eq_getElem _⟩
theorem ixN_pos {n : Nat} (h0 : 0 ≤ i) (h : i < n) : ixN n i = some i.toNat := by
  unfold ixN
  rw [if_pos h0, if_pos h]
theorem numL_rng {xs : List α} (d : α) : numL xs = (rng 0 xs.length).map fun i => (i, xs.getD i.toNat d) := by
  apply List.ext_getElem?
  intro i
  unfold numL rng
  rw [List.getElem?_mapIdx, List.getElem?_map, List.getElem?_map]
  rcases Nat.lt_or_ge i xs.length with h | h
  · have e : (List.range ((xs.length : Int) - 0).toNat)[i]? = some i := List.getElem?_range (by omega)
    rw [e, List.getElem?_eq_getElem h]
    simp [List.getD, h]
  · rw [List.getElem?_eq_none h, List.getElem?_eq_none (by simp; omega)]
    rfl
theorem getD_some {xs : List α} {d : α} {k : Nat} (h : xs[k]? = some x) : xs.getD k d = x := by simp [List.getD, h]
theorem W.lcP {o : α → Option Bool} {g : α → β} (h : ∀ x ∈ xs, ∃ t, o x = some t) : RL.lcM (fun (_ : Unit) x => (o x).bind fun tq => if tq = true then some ((), some (g x)) else some ((), none)) () xs = some ((), (xs.filter fun x => (o x).getD false).map g) := by
  refine lcM_totF fun x hx => ?_
  obtain ⟨t, ht⟩ := h x hx
  rw [ht]
  cases t <;> rfl
end
end RL

set_option maxHeartbeats 4000000
/-! RL31: stars within displays, tuples repeated, dicts of texts -/
namespace RL
open PySem L2 PySem.Spec PyProof.Rows
section
variable {X : Cx} {C : Cn} {Γ Γ1 Γ2 Γ3 Γ' : Ctx} {Ts Hs : List T} {t t1 t2 t3 : T} {ts : List T} {e a b c tg iter nm : Expr} {es rest : List Expr} {pos p p2 apos cpos : Pos} {nme : Expr} {i j : Nat} {d d1 d2 d3 : D} {ds ds' : List D} {m : M} {b1 b2 k : Bool} {α β : Type} {enc : α → D} {f : α → D} {xs ys : List α} {x y : α} {n n' : Int}
/-! ### dicts of texts -/
end
end RL

set_option maxHeartbeats 4000000
/-! RL32: comparisons told as values -/
namespace RL
open PySem L2
section
variable {X : Cx} {C : Cn} {Γ Γ1 Γ2 Γ3 Γ' : Ctx} {Ts Hs : List T} {t t1 t2 t3 : T} {a b e : Expr} {pos : Pos} {d d1 d2 : D} {ds : List D} {k : Bool} {α : Type} {enc : α → D} {xs : List α} {n n' : Int}
end
end RL

set_option maxHeartbeats 4000000
/-! RL33: blocks one behind another -/
namespace RL
open PySem L2
/-- the blocks one behind another end in o -/
def SL (X : Cx) (C : Cn) (Hs : List T) : Ctx → List Stmt → List (List Stmt) → O → Prop
  | Γ, sts, [], o => SS X C Hs Γ sts o
  | Γ, sts, k :: K, o => (∃ Γ1, SS X C Hs Γ sts (.nx Γ1) ∧ SL X C Hs Γ1 k K o) ∨ (o.isNx = false ∧ SS X C Hs Γ sts o)
section
variable {X : Cx} {C : Cn} {Γ Γ1 Γ2 Γ' : Ctx} {Hs : List T} {c : Expr} {pos : Pos} {st : Stmt} {sts body els k0 : List Stmt} {K : List (List Stmt)} {o : O} {k : Bool}
theorem sl_in (h : SL X C Hs Γ sts [] o) : SS X C Hs Γ sts o := h
theorem sl_end (w : wkL Γ' Γ) : SL X C Hs Γ [] [] (.nx Γ') := ss_nil w
theorem sl_pop (h : SL X C Hs Γ k0 K o) : SL X C Hs Γ [] (k0 :: K) o := .inl ⟨Γ, ss_nil (wkL_refl Γ), h⟩
  where wkL_refl : ∀ Γ, wkL Γ Γ
    | [] => trivial
    | none :: Γ => wkL_refl Γ
    | some m :: Γ => ⟨rfl, wkL_refl Γ⟩
theorem sl_cons (h1 : S1 X C Hs Γ st (.nx Γ1)) (h2 : SL X C Hs Γ1 sts K o) : SL X C Hs Γ (st :: sts) K o := by
  cases K with
  | nil => exact ss_cons h1 h2
  | cons k K =>
    rcases h2 with ⟨Γ2, a, b⟩ | ⟨a, b⟩
    · exact .inl ⟨Γ2, ss_cons h1 a, b⟩
    · exact .inr ⟨a, ss_cons h1 b⟩
theorem sl_exit (h1 : S1 X C Hs Γ st o) (ho : o.isNx = false := by rfl) : SL X C Hs Γ (st :: sts) K o := by
  cases K with
  | nil => exact ss_exit h1 ho
  | cons k K => exact .inr ⟨ho, ss_exit h1 ho⟩
theorem sl_ift (hc : ET X C Γ Hs c Γ1 k) (hk : k = true) (h : SL X C Hs Γ1 body (sts :: K) o) : SL X C Hs Γ (.If c body els pos :: sts) K o := by
  have n : k = false → False := fun z => by rw [hk] at z; cases z
  rcases h with ⟨Γ2, a, b⟩ | ⟨a, b⟩
  · exact sl_cons (s_if hc (fun _ => a) fun z => (n z).elim) b
  · exact sl_exit (s_if hc (fun _ => b) fun z => (n z).elim) a
theorem sl_iff (hc : ET X C Γ Hs c Γ1 k) (hk : k = false) (h : SL X C Hs Γ1 els (sts :: K) o) : SL X C Hs Γ (.If c body els pos :: sts) K o := by
  have n : k = true → False := fun z => by rw [hk] at z; cases z
  rcases h with ⟨Γ2, a, b⟩ | ⟨a, b⟩
  · exact sl_cons (s_if hc (fun z => (n z).elim) fun _ => a) b
  · exact sl_exit (s_if hc (fun z => (n z).elim) fun _ => b) a
theorem sl_ctx (h : Γ = Γ1) (hs : SL X C Hs Γ1 sts K o) : SL X C Hs Γ sts K o := h ▸ hs
/-- a rule about the state ahead of a block -/
theorem sl_map (f : ∀ o', SS X C Hs Γ1 sts o' → SS X C Hs Γ sts o') (h : SL X C Hs Γ1 sts K o) : SL X C Hs Γ sts K o := by
  cases K with
  | nil => exact f _ h
  | cons k K =>
    rcases h with ⟨Γ2, a, b⟩ | ⟨a, b⟩
    · exact .inl ⟨Γ2, f _ a, b⟩
    · exact .inr ⟨a, f _ b⟩
end
end RL

set_option maxHeartbeats 4000000
/-! RL34: exceptions -/
namespace RL
open PySem L2 PySem.Spec PyProof.Rows
/-- an exception: its class, its field -/
structure Exn where
  cls : Str
  fld : Option (Str × D)
def ExnIs (K : PySem.W.Frag) (mg : Str → Option Value) (x : Exn) (cls : Value) (d : Option Addr) (H : Hp) : Prop :=
  ∃ a, mg x.cls = some (.ref a) ∧ cls = .ref a ∧ match x.fld with
    | none => d = none
    | some (f, dv) => ∃ dd v, d = some dd ∧ H dd = some (.xd [(f, v)]) ∧ rD K dv v H
/-- how a block ends, raising too -/
inductive OX where
  | en (a : O) | ex (Γ : Ctx) (e : Exn)
def OX.isNx : OX → Bool
  | .en a => a.isNx
  | .ex _ _ => false
/-- it raises e; the state behind it is told by Γ' -/
def xrd (mg : Str → Option Value) (C : Cn) (Hs : List T) (Γ Γ' : Ctx) (W : WX) (e : Exn) (σ : L2.St) (H : Hp) : Prop :=
  (∃ hs, As C Γ Hs σ hs H) ∧ ∀ σ' cls d hs H', As C Γ' Hs σ' hs H' → ExnIs C.K mg e cls d H' → W cls d σ' H'
def SG (X : Cx) (mg : Str → Option Value) (C : Cn) (W : WX) (Hs : List T) (Γ : Ctx) (sts : List Stmt) : OX → Prop
  | .en o => SS X C Hs Γ sts o
  | .ex Γ' e => PSs X sts fun _ σ H => xrd mg C Hs Γ Γ' W e σ H
def S1G (X : Cx) (mg : Str → Option Value) (C : Cn) (W : WX) (Hs : List T) (Γ : Ctx) (st : Stmt) : OX → Prop
  | .en o => S1 X C Hs Γ st o
  | .ex Γ' e => PS X st fun _ σ H => xrd mg C Hs Γ Γ' W e σ H
section
variable {X : Cx} {mg : Str → Option Value} {C : Cn} {W : WX} {Hs : List T} {Γ Γ1 Γ2 Γ' : Ctx} {c : Expr} {pos : Pos} {st : Stmt} {sts body els k0 : List Stmt} {K : List (List Stmt)} {o : OX} {k : Bool} {e : Exn}
theorem _root_.L2.PS.nox (h : PS X.nox st t) : PS X st t := ⟨fun pins s σ H D I hw =>
  wpAny_mono (h.run pins s σ H D (I.wish _) hw) (fun _ _ q => q.unwish) fun _ _ z => False.elim z⟩
end
/-! ### defs that may raise -/
structure FnX (P : Program) (w : World) (K : PySem.W.Frag) (mg : Str → Option Value) (base : Heap) (k : Nat) (f : Addr) (fd : FuncData) (ps : List Str) (sp : Sp) : Prop where
  len : ∀ vs H Q E, sp vs H Q E → vs.length = ps.length
  go : ∀ (A : Around) (outer : List Env) (s : Shared) (H : Hp) (args : Args) (us : List Value) (vs : List V) (Q : VK) (E : XK), Room k A → A.guards = some [] → Env0 P w K mg base A outer s H → BindsTo s fd args (ps.zip us) → Vals vs us →
    sp vs H Q E → codeAny (model P w) A (.call (.ref f) args) (CR (L2.CX P w) outer P w H s Q E) s
section
variable {P : Program} {w : World} {K : PySem.W.Frag} {mg : Str → Option Value} {base : Heap} {j k : Nat} {f : Addr} {fd : FuncData} {ps : List Str} {sp sp' : Sp}
theorem FnX.mono (F : FnX P w K mg base j f fd ps sp) (h : j ≤ k) : FnX P w K mg base k f fd ps sp :=
  ⟨F.len, fun A outer s H args us vs Q E hr => F.go A outer s H args us vs Q E (hr.mono h)⟩
/-- where it raises nothing -/
theorem FnX.calm (F : FnX P w K mg base k f fd ps sp) (h : ∀ vs H Q E, sp' vs H Q E → sp vs H Q E0) : FnG P w K mg base k f fd ps sp' :=
  ⟨fun vs H Q E q => F.len vs H Q E0 (h _ _ _ _ q), fun A outer s H args us vs Q E hr hg he hb hv hs => codeAny_mono (F.go A outer s H args us vs Q E0 hr hg he hb hv (h _ _ _ _ hs)) fun r s' q => by
    match r, q with
    | .ok (.ret u), q => exact q
    | .ok .next, q => exact q.elim
    | .ok .brk, q => exact q.elim
    | .ok .cont, q => exact q.elim
    | .error e, q =>
      obtain ⟨_, _, _, _, _, _, _, _, _, _, _, _, z⟩ := q
      exact z.elim⟩
theorem FnX.of {x qual : Str} {params : Arguments} {body : List Stmt} {sc : Scope} {dV kV doc pm cdv ct oc : Value} {an od : Option Addr} {osl : Array (Option Value)} {N : List Str}
    (lk : K.lookup f = some ⟨oc, od, .func (PySem.W.fnOf x qual params body sc dV kV doc pm an cdv ct), osl⟩) (hcd : PySem.W.codeIn K cdv qual = true) (S : FnScope N ps sc) (len : ∀ vs H Q E, sp vs H Q E → vs.length = ps.length)
    (hbody : ∀ (A : Around) (outer : List Env) (s : Shared) (H : Hp) (vs : List V) (Q : VK) (E : XK), Room k (A.deeper (PyProof.Rows.envOfC qual sc s.heap.objs.size f cdv)) → A.guards = some [] → sp vs H Q E →
      ∃ t, PSs (cxOf (L2.CX P w) P w K mg base N qual sc f cdv A outer s H E) body t ∧ t { nx := fun _ H' => Q .non H', rt := Q } (start N vs) H) :
    FnX P w K mg base (k + 1) f (PySem.W.fnOf x qual params body sc dV kV doc pm an cdv ct) ps sp := by
  constructor
  · exact len
  intro A outer s H args us vs Q E hr hg e0 hb rel hsp
  have hlen := len _ _ _ _ hsp
  have kin : K.In s.heap := e0.mod.kin.keeps (fun b o z => (e0.bs b o z).1)
  have nol : s.heap.NoLimit := e0.mod.nolimit.keeps (fun b o z => (e0.bs b o z).1)
  have kinds : ∀ y ∈ ps.zip us, sc.names.lookup y.1 = some .local ∨ (sc.names.lookup y.1 = some .cell ∧ ((cellsFrom (s.heap.objs.size + 1) sc.names []).lookup y.1).isSome = true) := by
    rintro ⟨n, v⟩ hy
    exact (S.par n (List.of_mem_zip hy).1).elim .inl fun z => .inr ⟨z, PySem.W.cellsFrom_some _ _ _ (.inl z)⟩
  refine codeAny_call_function hr.depth (kin _ _ lk) rfl S.co S.gen rfl (PySem.W.codeRec_of kin hcd) (hb _ _ _ _ ?_)
  refine wpAny_newFunctionEnv_cells S.kind kinds fun env he s1 made => ?_
  subst he
  refine ⟨nol.keeps made.toInCall.keep, codeAny_func ?_⟩
  obtain ⟨t, ht, hq⟩ := hbody A outer s H vs Q E (hr.deeper _) hg hsp
  have inv : Inv (cxOf (L2.CX P w) P w K mg base N qual sc f cdv A outer s H E) [] (start N vs) H s1 := inv_start S hr.hd e0 hlen rel made
  refine wpAny_mono (ht.run [] s1 (start N vs) H _ inv hq) (fun fl s' hs => ?_) (fun e s' hs => hs)
  cases fl with
  | next =>
    obtain ⟨σ', H', J, q⟩ := hs
    exact ⟨V.non, H', J.os, J.bare, J.base, J.hok, rfl, q⟩
  | ret u =>
    obtain ⟨v, σ', H', J, rv, q⟩ := hs
    exact ⟨v, H', J.os, J.bare, J.base, J.hok, rv, q⟩
  | brk =>
    obtain ⟨_, _, _, q⟩ := hs
    cases q
  | cont =>
    obtain ⟨_, _, _, q⟩ := hs
    cases q
end
section
variable {X : Cx} {C : Cn} {W : WX} {Γ Γ1 Γ2 : Ctx} {Ts ts : List T} {k n : Nat} {f : Addr} {fd : FuncData} {ps ks : List Str} {sp : Sp} {x : Str} {p pos : Pos} {e : Expr} {es : List Expr} {kws : List Keyword} {ta tk : TA} {gV : List V → List V → List V} {g : List Value → List Value → List Value}
end
end RL

set_option maxHeartbeats 4000000
/-! RL35: raising, passing on, catching -/
namespace RL
open PySem L2 PySem.Spec PyProof.Rows
section
variable {X : Cx} {mg : Str → Option Value} {C : Cn} {W : WX} {Hs : List T} {Γ Γ1 Γ2 Γ' : Ctx} {Ts ts : List T} {t : T} {c a b e tg : Expr} {es : List Expr} {kws : List Keyword} {pos p nm : Pos} {st : Stmt} {sts body els : List Stmt} {x : Exn} {k : Bool} {m n : Nat} {f : Addr} {fd : FuncData} {ps ks : List Str} {y : Str} {rel : List M → Except Exn M → Prop} {ms : List M} {ds ds2 : List D}
/-! #### passing on -/
/-! #### statements -/
end
/-! ### a def's body that may raise -/
end RL

set_option maxHeartbeats 4000000
/-! RL36: try .. except, more facts of the top -/
namespace RL
open PySem L2 PySem.Spec PyProof.Rows
section
variable {C : Cn} {Γ : Ctx} {Ts : List T} {σ : L2.St} {vs : List V} {H : Hp} {i : Nat} {v : V}
end
section
variable {X : Cx} {C : Cn} {Hs : List T} {Γ Γx Γ' : Ctx} {i : Nat} {n x : Str} {c : Value} {np pos pos' : Pos} {body suite : List Stmt} {b₀ : Stmt} {o : O} {e : Exn} {m : M} {D : Addr}
end
/-! #### isinstance of the caught error -/
section
variable {X : Cx} {C : Cn} {Γ : Ctx} {Ts : List T} {i : Nat} {a D Y : Addr} {oe : Obj} {pn : List (Addr × Obj)} {nme : Expr} {y : Str} {p p2 pos : Pos} {b : Bool}
end
/-! ### what the top leaves, more of it -/
def obsZ (z : PySem.W.Frag → Bool) (fa : List He.Fa) (fn : List He.DefD) (K : PySem.W.Frag) : Bool × He.AlD := (z K, He.obsD fa fn K)
def SaysZ (z : PySem.W.Frag → Bool) (fa : List He.Fa) (fn : List He.DefD) (K : PySem.W.Frag) : Prop := obsZ z fa fn K = (true, He.valD fn)
def obsZG (z : PySem.W.Frag → Bool) (n : Nat) (fa : List He.Fa) (fn : List He.DefD) (g : Addr → Option Obj) : Bool × He.AlD := obsZ z fa fn (He.frG g (He.asD g n))
def hookZ (z : PySem.W.Frag → Bool) (n : Nat) (fa : List He.Fa) (fn : List He.DefD) : PySem.W.Hook where
  α := Bool × He.AlD
  obs := fun s => obsZG z n fa fn s.heap.get?
  val := fun _ => (true, He.valD fn)
  says := fun _ h => ∃ K : PySem.W.Frag, K.In h ∧ SaysZ z fa fn K
  of := fun _ _ e => ⟨_, He.frG_in, e⟩
  keeps := fun _ _ _ ⟨K, hK, c⟩ k => ⟨K, PySem.W.Frag.In.keeps hK k, c⟩
theorem obsZG_eq {z : PySem.W.Frag → Bool} {n : Nat} {fa : List He.Fa} {fn : List He.DefD} {g : Addr → Option Obj} {s : Shared} (h : ∀ a, g a = s.heap.get? a) : obsZG z n fa fn g = (hookZ z n fa fn).obs s := by
  have e : g = s.heap.get? := funext h
  rw [e] <;> rfl
theorem SaysZ.d {z : PySem.W.Frag → Bool} {fa : List He.Fa} {fn : List He.DefD} {K : PySem.W.Frag} (c : SaysZ z fa fn K) : He.SaysD fa fn K := congrArg (fun q : Bool × He.AlD => q.2) c
theorem SaysZ.z {z : PySem.W.Frag → Bool} {fa : List He.Fa} {fn : List He.DefD} {K : PySem.W.Frag} (c : SaysZ z fa fn K) : z K = true := congrArg (fun q : Bool × He.AlD => q.1) c
/-! ### what mirrors of raising defs say -/
/-- what is known of a class of errors of the module, without an __init__ of its own -/
structure ExcF (K : PySem.W.Frag) (mg : Str → Option Value) (x : Str) (a : Addr) : Prop where
  g : mg x = some (.ref a)
  q : PySem.W.excIn K a He.veBase "ValueError.__new__" = true
  k : PySem.W.keepIn K (.ref a) = true
  s : PySem.W.subIn K (.ref a) (.type "BaseException") = some true
  t : PySem.W.typeIn K (.ref a) = some (.type "type")
section
variable {X : Cx} {mg : Str → Option Value} {C : Cn} {W : WX} {Hs : List T} {Γ Γ1 Γ2 : Ctx} {pos nm : Pos} {st : Stmt} {sts : List Stmt} {K : List (List Stmt)} {y : Str} {a : Addr} {x : Exn}
end
section
variable {X : Cx} {C : Cn} {Hs : List T} {Γ Γx : Ctx} {i : Nat} {n x : Str} {c : Value} {np pos pos' : Pos} {body suite : List Stmt} {b₀ : Stmt} {m : M} {R : Type} {p : Except Exn R} {g : R → M}
end
section
variable {X : Cx} {C : Cn} {Γ Γ1 Γ' : Ctx} {Ts : List T} {t : T} {a b c : Expr} {pos : Pos} {k : Bool} {y : Str} {ad : Addr}
end
section
variable {X : Cx} {C : Cn} {Γ : Ctx} {Ts : List T} {nm : Expr} {pos q : Pos} {d : Deck} {k0 : Nat}
end
end RL

set_option maxHeartbeats 4000000
/-! RL37: the greatest of a list, tuples taken no times, lists locked within tuples -/
namespace RL
open PySem L2 PySem.Spec PyProof.Rows
/-! ### max, min of a list -/
section
variable {X : Cx} {C : Cn} {Γ Γ1 Γ2 Γ3 Γ' : Ctx} {Ts Hs : List T} {t t1 t2 t3 : T} {ts : List T} {e a b c tg iter : Expr} {es rest : List Expr} {pos p p2 nm apos cpos : Pos} {nme : Expr} {i j : Nat} {d d1 d2 d3 : D} {ds ds' : List D} {m : M} {b1 b2 k : Bool} {α β : Type} {enc : α → D} {xs ys : List α} {x y : α} {n n' : Int} {ns : List Int}
end
/-! ### a tuple taken no times -/
section
variable {X : Cx}
end
section
variable {X : Cx} {C : Cn} {Γ Γ1 Γ2 Γ3 Γ' : Ctx} {Ts Hs : List T} {t t1 t2 t3 : T} {ts : List T} {e a b c tg iter : Expr} {es rest : List Expr} {pos p p2 nm apos cpos : Pos} {nme : Expr} {i j : Nat} {d d1 d2 d3 : D} {ds ds' : List D} {m : M} {b1 b2 k : Bool} {α β : Type} {enc : α → D} {xs ys : List α} {x y : α} {n n' : Int}
end
end RL

set_option maxHeartbeats 4000000
/-! RL38: comparisons one behind another -/
namespace RL
open PySem L2 PySem.Spec PyProof.Rows
section
variable {X : Cx} {C : Cn} {Γ Γ1 Γ2 Γ3 Γ' : Ctx} {Ts Hs : List T} {a b c : Expr} {pos : Pos} {n m k : Int}
end
end RL

set_option maxHeartbeats 4000000
/-! RL39: constants of the module: numbers, texts, tuples of such -/
namespace RL
open PySem L2 PySem.Spec PyProof.Rows
end RL

set_option maxHeartbeats 4000000
/-! RL40: all, any, sum, sorted of lists -/
namespace RL
open PySem L2 PySem.Spec PyProof.Rows
theorem rDs_bls {K : PySem.W.Frag} {H : Hp} : ∀ {xs : List Bool} {us : List V}, rDs K (xs.map D.bl) us H → us = xs.map V.bl
  | [], us, h => by unfold List.map rDs at h; exact h
  | x :: xs, us, h => by
    unfold List.map rDs at h
    obtain ⟨w, ws, rfl, r, s⟩ := h
    unfold rD at r
    rw [r, rDs_bls s] <;> rfl
section
variable {X : Cx} {C : Cn} {Γ Γ1 Γ2 Γ3 Γ' : Ctx} {Ts Hs : List T} {t t1 t2 t3 : T} {e a b c : Expr} {pos p : Pos} {bs : List Bool} {ns : List Int}
theorem ee_allL {nmp : Pos} (hcm : X.calm = true) (hm : X.mg "all" = none) (h : EE X C Γ Ts e Γ1 t) (s : Src Γ1 t (bs.map D.bl)) (hg : Gl X "all" := by rfl) (hK : X.K = C.K := by rfl) (he : starEach [e] X.env = (false, eval e X.env) :: starEach [] X.env := by rfl) (hpl : (backTo pos (starEach [] X.env)).any (·.1) = false := by rfl) : EE X C Γ Ts (.Call (.Name "all" nmp) [e] [] pos) Γ1 (.im (.bl (bs.all id))) :=
  cb_wk (ts := [t]) (fun σ vs us H hl h Q q => by
    obtain ⟨u, rfl⟩ : ∃ u, us = [u] := List.length_eq_one_iff.mp hl
    obtain ⟨a, ws, e1, hw, rd⟩ := h.src s
    subst e1
    rw [rDs_bls rd] at hw
    refine ⟨a, bs, rfl, by rw [hK]; exact hw, q _ _ (h.pop.pushIm Ext.refl (by unfold rD; rfl))⟩) (pe_callB (cr_all hcm) hg hm (by decide +kernel) (ea_cons h ea_nil he) (by decide) (by decide) he hpl)
end
end RL

set_option maxHeartbeats 4000000
/-! RL41: isinstance of any data -/
namespace RL
open PySem L2 PySem.Spec PyProof.Rows
end RL

set_option maxHeartbeats 4000000
/-! RL42: any data, opened -/
namespace RL
open PySem L2 PySem.Spec PyProof.Rows
def asTup : D → Option (List D)
  | .tup l => some l
  | _ => none
section
variable {X : Cx} {C : Cn} {Γ Γ1 : Ctx} {Ts : List T} {e : Expr} {d : D}
end
end RL

set_option maxHeartbeats 4000000
/-! RL43: any datum in a list or tuple -/
namespace RL
open PySem L2 PySem.Spec PyProof.Rows
def rInB (K : PySem.W.Frag) : R2 := fun x y H Q => ∃ (d : PyData) (l : List PyData), Bears K H x d ∧ (Bears K H y (.list l) ∨ Bears K H y (.tuple l)) ∧ d.canLay0 = true ∧ PyData.canLayAll0 l = true ∧ min (PyData.depthAll l) d.depth ≤ 62 ∧ Q (.bl (l.any fun z => PyData.eqv z d)) H
section
variable {X : Cx}
theorem op_inB (hu : X.A.units + 64 < cLine) : OpR X (compareOp .In) (rInB X.K) := by
  rintro pins s σ H x y v u Q I rx ry ⟨d, l, b1, b2, l1, l2, hd, q⟩
  obtain ⟨as, r1⟩ := b1.reads I rx
  rcases b2 with b2 | b2
  · obtain ⟨bs, r2⟩ := b2.reads I ry
    exact SeqAt.in_list_reads r2 r1 l2 l1 (by omega) ⟨.bl _, H, I, rfl, q⟩
  · obtain ⟨bs, r2⟩ := b2.reads I ry
    exact SeqAt.in_tuple_reads r2 r1 l2 l1 (by omega) ⟨.bl _, H, I, rfl, q⟩
end
/-- x in l, of data -/
def inDD (d : D) (l : List D) : Option Bool := if (d.ok && oks l && decide (min (PyData.depthAll (ps l)) d.p.depth ≤ 62)) = true then some ((ps l).any fun z => PyData.eqv z d.p) else none
section
variable {X : Cx} {C : Cn} {Γ Γ1 Γ2 : Ctx} {Ts : List T} {t : T} {a b : Expr} {pos : Pos} {d : D} {l : List D} {k : Bool}
theorem src_bears {σ : L2.St} {vs : List V} {v : V} {H : Hp} (h : As C Γ (Ts ++ [t]) σ (vs ++ [v]) H) (s : SrcQ Γ t l) (k : oks l = true) : Bears C.K H v (.list (ps l)) ∨ Bears C.K H v (.tuple (ps l)) := by
  cases s with
  | l s => exact .inl (h.bears (.src s k))
  | t =>
    have := h.bears (BT.im (Γ := Γ) (d := .tup l) (by unfold D.ok; exact k))
    unfold D.p at this
    exact .inr this
theorem inDD_parts (h : inDD d l = some k) : d.ok = true ∧ oks l = true ∧ min (PyData.depthAll (ps l)) d.p.depth ≤ 62 ∧ ((ps l).any fun z => PyData.eqv z d.p) = k := by
  unfold inDD at h
  split at h
  · rename_i z
    simp only [Bool.and_eq_true, decide_eq_true_eq] at z
    exact ⟨z.1.1, z.1.2, z.2, Option.some.inj h⟩
  · cases h
end
end RL

set_option maxHeartbeats 4000000
/-! RL44: any datum read as a typed one -/
namespace RL
open PySem L2 PySem.Spec PyProof.Rows
section
variable {X : Cx} {C : Cn} {Γ Γ1 : Ctx} {Ts : List T} {e : Expr} {d : D} {α : Type} {f : α → D} {g : D → Option α} {x : α}
end
end RL

set_option maxHeartbeats 4000000
/-! RL45: any datum: the same as another one, among texts, an empty tuple -/
namespace RL
open PySem L2 PySem.Spec PyProof.Rows
open PySem.AutoSeq1 (wpAny_loadPart')
/-! ### the same -/
mutual
def D.beq : D → D → Bool
  | .non, e => match e with
    | .non => true
    | _ => false
  | .bl a, e => match e with
    | .bl b => a == b
    | _ => false
  | .int a, e => match e with
    | .int b => decide (a = b)
    | _ => false
  | .str a, e => match e with
    | .str b => decide (a = b)
    | _ => false
  | .tup a, e => match e with
    | .tup b => beqs a b
    | _ => false
  | .lst a, e => match e with
    | .lst b => beqs a b
    | _ => false
  | .dct _, _ => false
  | .ty _, _ => false
  | .tpw _, _ => false
def beqs : List D → List D → Bool
  | [], l => match l with
    | [] => true
    | _ => false
  | a :: as, l => match l with
    | b :: bs => D.beq a b && beqs as bs
    | _ => false
end
mutual
theorem D.beq_eq : ∀ {a b : D}, D.beq a b = true → a = b
  | .non, b, h => by
    unfold D.beq at h
    cases b <;> first | rfl | cases h
  | .bl a, b, h => by
    unfold D.beq at h
    cases b <;> first | (rename_i b; rw [eq_of_beq (show (a == b) = true from h)]) | cases h
  | .int a, b, h => by
    unfold D.beq at h
    cases b <;> first | (rename_i b; rw [of_decide_eq_true (p := a = b) h]) | cases h
  | .str a, b, h => by
    unfold D.beq at h
    cases b <;> first | (rename_i b; rw [of_decide_eq_true (p := a = b) h]) | cases h
  | .tup a, b, h => by
    unfold D.beq at h
    cases b <;> first | (rename_i b; rw [beqs_eq (show beqs a b = true from h)]) | cases h
  | .lst a, b, h => by
    unfold D.beq at h
    cases b <;> first | (rename_i b; rw [beqs_eq (show beqs a b = true from h)]) | cases h
  | .dct a, b, h => by unfold D.beq at h; cases h
  | .ty a, b, h => by unfold D.beq at h; cases h
  | .tpw a, b, h => by unfold D.beq at h; cases h
theorem beqs_eq : ∀ {a b : List D}, beqs a b = true → a = b
  | [], b, h => by
    unfold beqs at h
    cases b <;> first | rfl | cases h
  | x :: a, b, h => by
    unfold beqs at h
    cases b with
    | nil => cases h
    | cons y b =>
      have h : (D.beq x y && beqs a b) = true := h
      rw [Bool.and_eq_true] at h
      rw [D.beq_eq h.1, beqs_eq h.2]
end
/-! ### a text beside any datum -/
section
variable {A : Around} {s : Shared}
end
section
variable {X : Cx} {pins : List (Addr × Obj)} {σ : L2.St} {H : Hp} {s : Shared}
end
section
variable {X : Cx}
end
section
variable {X : Cx} {C : Cn} {Γ Γ1 Γ2 : Ctx} {Ts : List T} {a b : Expr} {pos q : Pos} {kk : Nat} {d : D} {l : List Str} {k : Bool} {α : Type} {enc : α → D} {xs : List α}
end
end RL
namespace RL
open PySem L2
end RL

set_option maxHeartbeats 4000000
/-! RL46: repr of any datum, with dicts -/
namespace RL
open PySem L2 PySem.Spec PyProof.Rows
/-! ### a datum as the library tells it, dicts too -/
def kq : Key → PyData
  | .inl i => .int i
  | .inr x => .str x
mutual
def D.q : D → PyData
  | .non => .none
  | .bl b => .bool b
  | .int i => .int i
  | .str s => .str s
  | .tup l => .tuple (qs l)
  | .lst l => .list (qs l)
  | .dct l => .dict (qk l)
  | .ty _ => .none
  | .tpw _ => .none
def qs : List D → List PyData
  | [] => []
  | d :: l => d.q :: qs l
def qk : List (Key × D) → List (PyData × PyData)
  | [] => []
  | (k, d) :: l => (kq k, d.q) :: qk l
end
mutual
/-- no class within -/
def D.rdy : D → Bool
  | .tup l => rdys l
  | .lst l => rdys l
  | .dct l => rdyk l
  | .ty _ => false
  | .tpw _ => false
  | .str s => PyData.strOk s
  | _ => true
def rdys : List D → Bool
  | [] => true
  | d :: l => d.rdy && rdys l
def rdyk : List (Key × D) → Bool
  | [] => true
  | (_, d) :: l => d.rdy && rdyk l
end
section
variable {X : Cx} {pins : List (Addr × Obj)} {σ : L2.St} {H : Hp} {s : Shared}
end
section
variable {X : Cx}
end
section
variable {X : Cx} {C : Cn} {Γ Γ1 : Ctx} {Ts : List T} {e : Expr} {pos nm : Pos} {d : D} {s : Str}
end
/-! ### a dict is locked -/
section
variable {K : PySem.W.Frag} {H : Hp}
end
section
variable {X : Cx} {C : Cn} {Γ Γ1 : Ctx} {Ts : List T} {e : Expr} {l : List (Key × D)}
end
/-! ### what the top leaves, with the dict of the modules -/
end RL

set_option maxHeartbeats 4000000
/-! RL47: comparisons of any data as tests -/
namespace RL
open PySem L2 PySem.Spec PyProof.Rows
section
variable {X : Cx} {C : Cn} {Γ Γ1 Γ2 : Ctx} {Ts : List T} {a b c : Expr} {pos q : Pos} {kk : Nat} {d : D} {l : List Str} {α : Type} {enc : α → D} {xs : List α} {n m k : Int}
end
end RL

set_option maxHeartbeats 4000000
/-! RL48: plain: any data of a bounded size, as repr shows them -/
namespace RL
open PySem L2
/-- can be shown, no deeper than k -/
def okX (k : Nat) (d : D) : Prop := d.rdy = true ∧ d.q.showable = true ∧ d.q.leavesShort 100 = true ∧ d.q.depth ≤ k
abbrev blk (d : D) : Nat := d.q.bulk
def sumB : List D → Nat
  | [] => 0
  | d :: l => blk d + 1 + sumB l
def FX (k n : Nat) (d : D) : Prop := okX k d ∧ blk d ≤ n
def FXs (k n : Nat) (l : List D) : Prop := (∀ d ∈ l, okX k d) ∧ sumB l ≤ n
theorem sumB_n : sumB [] = 0 := rfl
theorem sumB_c {d : D} {l : List D} : sumB (d :: l) = blk d + 1 + sumB l := rfl
theorem sumB_q : ∀ l : List D, PyData.bulkAll (qs l) = sumB l
  | [] => by unfold qs PyData.bulkAll sumB; rfl
  | d :: l => by unfold qs PyData.bulkAll sumB; rw [sumB_q l]
theorem all_q {k : Nat} : ∀ {l : List D}, (∀ d ∈ l, okX k d) ↔ (rdys l = true ∧ PyData.showableAll (qs l) = true ∧ PyData.leavesShortAll 100 (qs l) = true ∧ PyData.depthAll (qs l) ≤ k)
  | [] => by
    refine ⟨fun _ => ⟨by unfold rdys; rfl, ?_, ?_, ?_⟩, fun _ d h => nomatch h⟩ <;> unfold qs
    · unfold PyData.showableAll; rfl
    · unfold PyData.leavesShortAll; rfl
    · unfold PyData.depthAll; omega
  | d :: l => by
    have ih := all_q (k := k) (l := l)
    have e : (∀ x ∈ d :: l, okX k x) ↔ (okX k d ∧ ∀ x ∈ l, okX k x) := by simp
    have e1 : rdys (d :: l) = (d.rdy && rdys l) := by rw [rdys.eq_def] <;> rfl
    have e2 : qs (d :: l) = d.q :: qs l := by rw [qs.eq_def] <;> rfl
    have e3 : PyData.showableAll (d.q :: qs l) = (d.q.showable && PyData.showableAll (qs l)) := by rw [PyData.showableAll.eq_def] <;> rfl
    have e4 : PyData.leavesShortAll 100 (d.q :: qs l) = (d.q.leavesShort 100 && PyData.leavesShortAll 100 (qs l)) := by rw [PyData.leavesShortAll.eq_def] <;> rfl
    have e5 : PyData.depthAll (d.q :: qs l) = max d.q.depth (PyData.depthAll (qs l)) := by rw [PyData.depthAll.eq_def] <;> rfl
    rw [e, ih, e1, e2, e3, e4, e5]
    unfold okX
    simp only [Bool.and_eq_true, Nat.max_le]
    constructor
    · rintro ⟨⟨a1, a2, a3, a4⟩, b1, b2, b3, b4⟩
      exact ⟨⟨a1, b1⟩, ⟨a2, b2⟩, ⟨a3, b3⟩, a4, b4⟩
    · rintro ⟨⟨a1, b1⟩, ⟨a2, b2⟩, ⟨a3, b3⟩, a4, b4⟩
      exact ⟨⟨a1, a2, a3, a4⟩, b1, b2, b3, b4⟩
theorem okX_tup {k : Nat} {l : List D} : okX (k + 1) (.tup l) ↔ ∀ d ∈ l, okX k d := by
  rw [all_q]
  unfold okX D.rdy D.q PyData.showable PyData.leavesShort PyData.depth
  constructor
  · rintro ⟨a, b, c, d⟩; exact ⟨a, b, c, by omega⟩
  · rintro ⟨a, b, c, d⟩; exact ⟨a, b, c, by omega⟩
theorem okX_lst {k : Nat} {l : List D} : okX (k + 1) (.lst l) ↔ ∀ d ∈ l, okX k d := by
  rw [all_q]
  unfold okX D.rdy D.q PyData.showable PyData.leavesShort PyData.depth
  constructor
  · rintro ⟨a, b, c, d⟩; exact ⟨a, b, c, by omega⟩
  · rintro ⟨a, b, c, d⟩; exact ⟨a, b, c, by omega⟩
theorem okX_tup0 {k : Nat} {l : List D} (h : okX k (.tup l)) : ∃ j, k = j + 1 ∧ ∀ d ∈ l, okX j d := by
  cases k with
  | zero =>
    have := h.2.2.2
    unfold D.q PyData.depth at this
    omega
  | succ j => exact ⟨j, rfl, okX_tup.mp h⟩
theorem blk_tup {l : List D} : blk (.tup l) = sumB l := by unfold blk D.q PyData.bulk; exact sumB_q l
theorem blk_lst {l : List D} : blk (.lst l) = sumB l := by unfold blk D.q PyData.bulk; exact sumB_q l
theorem okX.mono {k m : Nat} {d : D} (h : okX k d) (e : k ≤ m) : okX m d := ⟨h.1, h.2.1, h.2.2.1, by have := h.2.2.2; omega⟩
theorem FX.mono {k m n j : Nat} {d : D} (h : FX k n d) (e : k ≤ m) (e2 : n ≤ j) : FX m j d := ⟨h.1.mono e, by have := h.2; omega⟩
theorem FXs.mono {k m n j : Nat} {l : List D} (h : FXs k n l) (e : k ≤ m) (e2 : n ≤ j) : FXs m j l := ⟨fun d hd => (h.1 d hd).mono e, by have := h.2; omega⟩
theorem FX.tup {k n : Nat} {l : List D} (h : FXs k n l) : FX (k + 1) n (.tup l) := ⟨okX_tup.mpr h.1, by rw [blk_tup]; exact h.2⟩
theorem FX.lst {k n : Nat} {l : List D} (h : FXs k n l) : FX (k + 1) n (.lst l) := ⟨okX_lst.mpr h.1, by rw [blk_lst]; exact h.2⟩
theorem FX.items {k n : Nat} {l : List D} (h : FX k n (.tup l)) : ∃ j, k = j + 1 ∧ FXs j n l := by
  obtain ⟨j, e, q⟩ := okX_tup0 h.1
  exact ⟨j, e, q, by rw [← blk_tup]; exact h.2⟩
theorem sumB_app : ∀ {a b : List D}, sumB (a ++ b) = sumB a + sumB b
  | [], b => by rw [sumB_n, List.nil_append]; omega
  | d :: a, b => by
    rw [List.cons_append, sumB_c, sumB_c, sumB_app]
    omega
theorem FXs.app {k n m : Nat} {a b : List D} (h : FXs k n a) (h2 : FXs k m b) : FXs k (n + m) (a ++ b) := ⟨fun d hd => (List.mem_append.mp hd).elim (h.1 d) (h2.1 d), by rw [sumB_app]; have := h.2; have := h2.2; omega⟩
theorem FXs.one {k n : Nat} {d : D} (h : FX k n d) : FXs k (n + 1) [d] := ⟨fun x hx => by rw [List.mem_singleton.mp hx]; exact h.1, by rw [sumB_c, sumB_n]; have := h.2; omega⟩
theorem FXs.nil {k : Nat} : FXs k 0 [] := ⟨fun x hx => (nomatch hx), by rw [sumB_n]; omega⟩
theorem FXs.cons {k n m : Nat} {d : D} {l : List D} (h : FX k n d) (h2 : FXs k m l) : FXs k (n + 1 + m) (d :: l) := (FXs.one h).app h2
theorem sumB_sub {a b : List D} (h : a.Sublist b) : sumB a ≤ sumB b := by
  induction h with
  | slnil => exact Nat.le_refl _
  | cons x h ih => rw [sumB_c]; omega
  | cons_cons x h ih => rw [sumB_c, sumB_c]; omega
theorem FXs.sub {k n : Nat} {a b : List D} (h : FXs k n b) (s : a.Sublist b) : FXs k n a := ⟨fun d hd => h.1 d (s.subset hd), Nat.le_trans (sumB_sub s) h.2⟩
theorem FXs.mem {k n : Nat} {l : List D} {d : D} (h : FXs k n l) (hd : d ∈ l) : FX k n d := ⟨h.1 d hd, by
  have z := sumB_sub (List.singleton_sublist.mpr hd)
  rw [sumB_c, sumB_n] at z
  have := h.2
  omega⟩
theorem sumB_len : ∀ {l : List D}, l.length ≤ sumB l
  | [] => Nat.zero_le _
  | d :: l => by rw [sumB_c]; have := sumB_len (l := l); rw [List.length_cons]; omega
theorem FXs.len {k n : Nat} {l : List D} (h : FXs k n l) : l.length ≤ n := Nat.le_trans sumB_len h.2
theorem sumB_set : ∀ {l : List D} {i : Nat} {x : D}, sumB (l.set i x) ≤ sumB l + (blk x + 1)
  | [], i, x => by simp [sumB]
  | d :: l, 0, x => by rw [List.set_cons_zero, sumB_c, sumB_c]; omega
  | d :: l, i + 1, x => by rw [List.set_cons_succ, sumB_c, sumB_c]; have := sumB_set (l := l) (i := i) (x := x); omega
theorem FXs.set {k n m i : Nat} {l : List D} {x : D} (h : FXs k n l) (hx : FX k m x) : FXs k (n + (m + 1)) (l.set i x) := ⟨fun d hd => (List.mem_or_eq_of_mem_set hd).elim (h.1 d) (fun e => by rw [e]; exact hx.1), by have := sumB_set (l := l) (i := i) (x := x); have := h.2; have := hx.2; omega⟩
theorem cut_sub {α : Type} (l : List α) (a b : Option Int) : (cutL l a b).Sublist l := by
  unfold cutL
  exact (List.take_sublist _ _).trans (List.drop_sublist _ _)
theorem FXs.cut {k n : Nat} {l : List D} (h : FXs k n l) (a b : Option Int) : FXs k n (cutL l a b) := h.sub (cut_sub l a b)
/-! single ones -/
theorem FX.int {k n : Nat} {i : Int} (h : i.natAbs < 10 ^ 12) : FX k n (.int i) := by
  have e1 := PyData.shown_int_le h
  have h2 : i.natAbs.log2 < 1920 := by
    by_cases z : i.natAbs = 0
    · rw [z]; decide
    · rw [Nat.log2_lt z]
      exact Nat.lt_trans h (by decide)
  refine ⟨⟨by unfold D.rdy; rfl, ?_, ?_, ?_⟩, ?_⟩
  · unfold D.q PyData.showable; exact decide_eq_true h2
  · unfold D.q PyData.leavesShort; exact decide_eq_true (by omega)
  · unfold D.q PyData.depth; omega
  · unfold blk D.q PyData.bulk; omega
theorem FX.big {k n : Nat} : FX k n (.int (10 ^ 18 + 7)) := by
  refine ⟨⟨by unfold D.rdy; rfl, ?_, ?_, ?_⟩, ?_⟩
  · unfold D.q PyData.showable; exact decide_eq_true (by decide +kernel)
  · unfold D.q PyData.leavesShort; exact decide_eq_true (by decide +kernel)
  · unfold D.q PyData.depth; omega
  · unfold blk D.q PyData.bulk; omega
theorem FX.non {k n : Nat} : FX k n .non := by
  refine ⟨⟨by unfold D.rdy; rfl, ?_, ?_, ?_⟩, ?_⟩
  · unfold D.q PyData.showable; rfl
  · unfold D.q PyData.leavesShort; rfl
  · unfold D.q PyData.depth; omega
  · unfold blk D.q PyData.bulk; omega
theorem FX.bl {k n : Nat} {b : Bool} : FX k n (.bl b) := by
  refine ⟨⟨by unfold D.rdy; rfl, ?_, ?_, ?_⟩, ?_⟩
  · unfold D.q PyData.showable; rfl
  · unfold D.q PyData.leavesShort; rfl
  · unfold D.q PyData.depth; omega
  · unfold blk D.q PyData.bulk; omega
theorem FX.str {k n : Nat} {s : Str} (h : PyData.strOk s = true) (hl : s.cps.size ≤ n) : FX k n (.str s) := by
  refine ⟨⟨by unfold D.rdy; exact h, ?_, ?_, ?_⟩, ?_⟩
  · unfold D.q PyData.showable; rfl
  · unfold D.q PyData.leavesShort
    rw [List.all_eq_true]
    intro c hc
    unfold PyData.strOk at h
    rw [Array.all_eq_true_iff_forall_mem] at h
    have := of_decide_eq_true (h c (Array.mem_toList_iff.mp hc))
    exact decide_eq_true (by omega)
  · unfold D.q PyData.depth; omega
  · unfold blk D.q PyData.bulk; exact hl
theorem q_dct1 {s : Str} {d : D} : D.q (.dct [(.inr s, d)]) = .dict [(.str s, d.q)] := by simp only [D.q, qk, kq]
theorem FX.dct {k n : Nat} {s : Str} {d : D} (h : PyData.strOk s = true) (hd : FX k n d) : FX (k + 1) (n + s.cps.size + 2) (.dct [(.inr s, d)]) := by
  obtain ⟨⟨b1, b2, b3, b4⟩, b5⟩ := hd
  have hs : FX k s.cps.size (.str s) := FX.str h (Nat.le_refl _)
  obtain ⟨⟨a1, a2, a3, a4⟩, a5⟩ := hs
  have e : D.q (.str s) = .str s := by simp only [D.q]
  unfold blk at a5 b5
  rw [e] at a2 a3 a4 a5
  unfold FX okX blk
  rw [q_dct1]
  revert a2 a3 a4 a5 b2 b3 b4 b5
  generalize PyData.str s = a
  generalize d.q = b
  intro b2 b3 b4 b5 a2 a3 a4 a5
  refine ⟨⟨?_, ?_, ?_, ?_⟩, ?_⟩
  · simp only [D.rdy, rdyk, b1]; rfl
  · simp only [PyData.showable, PyData.showableKv, b3, a3]; rfl
  · simp only [PyData.leavesShort, PyData.leavesShortKv, b4, a4]; rfl
  · simp only [PyData.depth, PyData.depthKv]; omega
  · simp only [PyData.bulk, PyData.bulkKv]; omega
/-! numbers within lists -/
end RL
namespace RL
open PySem L2
theorem FXs.of {k n : Nat} : ∀ {l : List D} {m : Nat}, (∀ d ∈ l, FX k n d) → l.length ≤ m → FXs k (m * (n + 1)) l
  | [], m, _, _ => FXs.nil.mono (Nat.le_refl _) (Nat.zero_le _)
  | d :: l, m, h, hl => by
    rw [List.length_cons] at hl
    obtain ⟨m', rfl⟩ : ∃ m', m = m' + 1 := ⟨m - 1, by omega⟩
    have ih := FXs.of (l := l) (m := m') (fun x hx => h x (by simp [hx])) (by omega)
    refine (FXs.cons (h d (by simp)) ih).mono (Nat.le_refl _) ?_
    rw [Nat.add_mul, Nat.one_mul]
    omega
theorem W.tup {β : Type} {l : List D} {f : List D → Option β} {P : β → Prop} (k : W (f l) P) : W ((asTup (.tup l)).bind f) P := k
end RL
namespace RL
open PySem L2
section
variable {α β S R : Type} {f g : S → α → Option (Out S R)} {s : S} {xs : List α}
end
end RL
namespace RL
open PySem L2
theorem FXs.self {k : Nat} {l : List D} (h : ∀ d ∈ l, okX k d) : FXs k (sumB l) l := ⟨h, Nat.le_refl _⟩
theorem FX.self {k : Nat} {d : D} (h : okX k d) : FX k (blk d) d := ⟨h, Nat.le_refl _⟩
end RL

set_option maxHeartbeats 4000000
/-! RL49: x == [] of any data; sorted of numbers, tuples too; is None of any datum; a datum unpacked -/
namespace RL
open PySem L2 PySem.Spec PyProof.Rows
/-! ### nothing in a list -/
section
variable {X : Cx}
end
section
variable {X : Cx} {C : Cn} {Γ Γ1 : Ctx} {Ts : List T} {a : Expr} {pos q : Pos} {t : T} {α : Type} {enc : α → D} {xs : List α}
end
/-! ### is None -/
section
variable {X : Cx} {C : Cn} {Γ Γ1 : Ctx} {Ts : List T} {e : Expr} {pos : Pos} {d : D}
end
/-! ### sorted of numbers -/
def insI (x : Int) : List Int → List Int
  | [] => [x]
  | y :: l => if x ≤ y then x :: y :: l else y :: insI x l
def srtI : List Int → List Int
  | [] => []
  | x :: l => insI x (srtI l)
theorem insI_perm {x : Int} : ∀ {l : List Int}, (insI x l).Perm (x :: l)
  | [] => .refl _
  | y :: l => by
    unfold insI
    split
    · exact .refl _
    · exact ((insI_perm (l := l)).cons y).trans (.swap x y l)
theorem srtI_perm : ∀ {l : List Int}, (srtI l).Perm l
  | [] => .refl _
  | x :: l => insI_perm.trans (srtI_perm.cons x)
theorem insI_up {x : Int} : ∀ {l : List Int}, l.Pairwise (· ≤ ·) → (insI x l).Pairwise (· ≤ ·)
  | [], _ => List.pairwise_singleton _ _
  | y :: l, h => by
    have h' := List.pairwise_cons.mp h
    unfold insI
    split
    · rename_i c
      refine List.pairwise_cons.mpr ⟨fun z hz => ?_, h⟩
      rcases List.mem_cons.mp hz with e | hz
      · rw [e]; exact c
      · exact Int.le_trans c (h'.1 z hz)
    · rename_i c
      refine List.pairwise_cons.mpr ⟨fun z hz => ?_, insI_up h'.2⟩
      rcases List.mem_cons.mp (insI_perm.mem_iff.mp hz) with e | hz
      · rw [e]; omega
      · exact h'.1 z hz
theorem srtI_up : ∀ {l : List Int}, (srtI l).Pairwise (· ≤ ·)
  | [] => List.Pairwise.nil
  | x :: l => insI_up srtI_up
theorem srtI_uniq {l m : List Int} (p : m.Perm l) (s : m.Pairwise (· ≤ ·)) : m = srtI l :=
  List.Perm.eq_of_pairwise (le := (· ≤ ·)) (fun a b _ _ h1 h2 => Int.le_antisymm h1 h2) s srtI_up (p.trans srtI_perm.symm)
/-! a tuple is gathered as a list is -/
section
open SrtO Srt
variable {P : Program} {w : World} {A : Around} {E : Value → Shared → Prop} {s : Shared}
abbrev gHeap (h : Heap) (vs : List Value) : Heap := (h.push (seqObj "list" #[] 0)).update h.objs.size (Obj.mapSeq (· ++ vs.toArray))
theorem gather_tup {l : Addr} {vs : List Value} {Q : List Value → Shared → Prop} (hl : s.heap.IsTuple l vs.toArray) (hz : vs.length ≤ sizeLine) (q : Q vs { s with heap := gHeap s.heap vs }) : wpAny (model P w) A (collect (.ref l)) Q E s := by
  obtain ⟨ob, hob, hcl, ep, hdt⟩ := hl
  have nw := Heap.get?_push_size (o := seqObj "list" #[] 0) s.heap rfl
  have old : (s.heap.push (seqObj "list" #[] 0)).get? l = some ob := Heap.get?_push_of_some _ hob
  unfold collect
  apply wpAny_bind
  apply wpAny_runValue
  apply codeAny_builtin entry_proto_collect'
  change wpAny _ _ (newList [] >>= fun r => again (.builtin "list.__iadd__" ⟨[r, .ref l], []⟩)) _ _ s
  apply wpAny_bind
  refine wpAny_newList ?_
  apply wpAny_pure
  refine ⟨Code.quiet_builtin _ (by decide +kernel), ?_⟩
  apply codeAny_builtin entry_list_iadd'
  change wpAny _ _ (Builtin.List.listExtendWith (.ref s.heap.objs.size) (.ref l) (.ref s.heap.objs.size)) _ _ { s with heap := s.heap.push _ }
  unfold Builtin.List.listExtendWith
  apply wpAny_bind
  refine wpAny_typeOf (T := "tuple") ⟨ob, old, hcl⟩ ?_
  have tt : (Value.type "tuple" == Value.type "tuple") = true := by rfl
  rw [if_pos (by rw [tt, Bool.or_true])]
  apply wpAny_bind
  refine listItems_at old hdt ?_
  apply wpAny_bind
  refine listItems_at (xs := #[]) (n := 0) nw rfl ?_
  rw [if_neg (by simp)]
  apply wpAny_bind
  refine listUpdate_at (xs := #[]) (n := 0) nw rfl ?_ (Nat.zero_le _) ?_
  · apply wpAny_pure
    change wpAny (model P w) A (load s.heap.objs.size >>= fun ob => match ob.data with
      | .seq xs _ => pure xs.toList
      | _ => unsupported "internal:collect") Q E { s with heap := gHeap s.heap vs }
    apply wpAny_bind
    refine wpAny_load (get?_update_seq nw _) ?_
    change wpAny _ _ (pure ((#[] : Array Value) ++ vs.toArray).toList) Q E _
    have e : ((#[] : Array Value) ++ vs.toArray).toList = vs := by simp
    rw [e]
    exact wpAny_pure q
  · change (#[] ++ vs.toArray).size ≤ sizeLine + 1
    rw [Array.size_append, List.size_toArray]
    simp only [List.size_toArray, List.length_nil]
    omega
theorem sorted_tup {l : Addr} {vs : List Value} {ltv : Value → Value → Bool} {Q : Value → Shared → Prop} (O : Swo ltv) (hl : s.heap.IsTuple l vs.toArray) (hz : vs.length ≤ sizeLine)
    (hS : 2 ≤ vs.length → ∀ (h₁ : Heap) (a : Addr), SortableO P w A.in1.in1 { s with heap := h₁ } a vs ltv)
    (q : ∀ out : List Value, Srtd ltv out → Stb ltv out vs → Q (.ref (s.heap.objs.size + 1)) { s with heap := sortedAll s.heap vs out.toArray }) : wpAny (model P w) A (call (.builtin "sorted") [.ref l]) Q E s := by
  have sz : (gHeap s.heap vs).objs.size = s.heap.objs.size + 1 := by
    rw [Heap.size_update]
    exact size_push' ..
  have here : ((gHeap s.heap vs).push (seqObj "list" vs.toArray 0)).get? (s.heap.objs.size + 1) = some (seqObj "list" vs.toArray 0) := by
    have z := Heap.get?_push_size (o := seqObj "list" vs.toArray 0) (gHeap s.heap vs) rfl
    rw [sz] at z
    exact z
  apply Calls.call_function_entry kind_sorted plain_sorted entry_sorted (args_sorted1 _)
  unfold Builtin.«sorted»
  apply wpAny_bind (m := checkCount "sorted" 1 1 _)
  apply wpAny_pure
  apply wpAny_bind
  refine gather_tup hl hz ?_
  apply wpAny_bind
  refine wpAny_newList ?_ hz
  change wpAny _ _ _ _ _ { s with heap := (gHeap s.heap vs).push _ }
  rw [sz]
  apply wpAny_bind
  apply wpAny_holding
  refine wpAny_call_entry slot_list_sort ⟨_, here, rfl⟩ entry_list_sort (list_sort_ord O here hz (fun h2 => hS h2 _ _) fun out o1 o2 => ⟨_, rfl, ?_⟩) (args_list_sort _)
  exact wpAny_pure ⟨_, rfl, q out o1 o2⟩
end
def rSrtQ (K : PySem.W.Frag) : List V → Hp → VK → Prop := fun xs H Q => ∃ (a : Addr) (ns : List Int), xs = [V.ref a] ∧ (SqL K H a (ns.map V.int) ∨ SqT K H a (ns.map V.int)) ∧ ∀ p : Addr, H p = none → Q (.ref p) (upd H p (.lst ((srtI ns).map V.int)))
theorem cr_srtQ {X : Cx} : CallR X (.builtin "sorted") (rSrtQ X.K) := by
  intro pins s σ H xs us Q I r h
  obtain ⟨a, ns, rfl, hs, q⟩ := h
  rcases hs with hs | hs
  · exact cr_sortedI pins s σ H _ us Q I r ⟨a, ns, rfl, hs, fun ns' p pm up hp => by rw [srtI_uniq pm up]; exact q p hp⟩
  · obtain ⟨its, rv, hl, hz⟩ := I.tuple hs
    rw [Vals.ref1 r]
    have hi := rv.ints
    obtain ⟨ob, o1, o2, n, o3⟩ := hl
    refine sorted_tup SrtO.swo_int ⟨ob, o1, o2, n, o3⟩ (by rw [← rv.length]; exact hz) (fun h2 h₁ a' => SrtO.ints_sortable hi h2) fun out h1 h2 => ?_
    obtain ⟨k1, k2, k3⟩ := SrtO.ints_out hi h1 h2
    obtain ⟨ep, he'⟩ := PyProof.Rows.sortedAll_at s.heap its out.toArray
    have lz : ((out.map SrtO.iv).map V.int).length ≤ sizeLine := by
      rw [List.length_map, k2.length_eq]
      rwa [List.length_map] at hz
    have z := q _ (I.hok.fresh (Nat.le_succ s.heap.objs.size))
    rw [← srtI_uniq k2 k3] at z
    have J := I.laid (t' := s.toks) (fun _ _ => PyProof.Rows.sortedAll_old) (Nat.le_succ _) (o := .lst ((out.map SrtO.iv).map V.int)) ⟨lz, out, ep, vals_of_ints k1, he'⟩
    exact ⟨.ref _, _, J, rfl, z⟩
section
variable {X : Cx} {C : Cn} {Γ Γ1 : Ctx} {Ts : List T} {e : Expr} {pos nmp : Pos} {t : T} {xs : List Int}
theorem ee_sorted (hm : X.mg "sorted" = none) (h : EE X C Γ Ts e Γ1 t) (s : SrcQ Γ1 t (xs.map D.int)) (hg : Gl X "sorted" := by rfl) (hK : X.K = C.K := by rfl) (he : starEach [e] X.env = (false, eval e X.env) :: starEach [] X.env := by rfl) (hpl : (backTo pos (starEach [] X.env)).any (·.1) = false := by rfl) : EE X C Γ Ts (.Call (.Name "sorted" nmp) [e] [] pos) Γ1 (.own (.li ((srtI xs).map D.int))) :=
  cb_wk (ts := [t]) (fun σ vs us H hl h Q q => by
    obtain ⟨u, rfl⟩ : ∃ u, us = [u] := List.length_eq_one_iff.mp hl
    obtain ⟨a, ws, e1, hw, rd⟩ := h.srcQ s
    subst e1
    rw [rDs_ints rd] at hw
    refine ⟨a, xs, rfl, by rw [hK]; exact hw, fun p hp => q _ _ (h.pop.push (Ext.new hp) (t := .own (.li ((srtI xs).map D.int))) (F := fun x => x = p) ?_ (fun x e => by rw [e]; exact hp) fun x e => by rw [e, upd_same]; trivial)⟩
    show rM _ _ _ _ _
    unfold rM
    refine ⟨p, _, rfl, upd_same, ?_, fun _ => Iff.rfl⟩
    generalize srtI xs = ys
    generalize upd H p _ = H2
    induction ys with
    | nil => unfold rDs; rfl
    | cons y ys ih =>
      rw [List.map_cons]
      unfold rDs
      exact ⟨_, _, rfl, by unfold rD; rfl, ih⟩) (pe_callB cr_srtQ hg hm (by decide +kernel) (ea_cons h ea_nil he) (by decide) (by decide) he hpl)
end
end RL

set_option maxHeartbeats 4000000
/-! RL50: any datum in a list or tuple, as a test -/
namespace RL
open PySem L2 PySem.Spec PyProof.Rows
section
variable {X : Cx} {C : Cn} {Γ Γ1 Γ2 : Ctx} {Ts : List T} {t : T} {a b : Expr} {pos : Pos} {d : D} {l : List D} {k : Bool}
theorem et_inDD (hu : X.A.units + 64 < cLine) (h1 : EE X C Γ Ts a Γ1 (.im d)) (h2 : EE X C Γ1 (Ts ++ [.im d]) b Γ2 t) (s : SrcQ Γ2 t l) (h : inDD d l = some k) (hm : behindInMarks .In b = false := by rfl) (hK : X.K = C.K := by rfl) : ET X C Γ Ts (.Compare a [.In] [b] pos) Γ2 k := by
  obtain ⟨k1, k2, k3, k4⟩ := inDD_parts h
  exact et_cmp (op_inB hu) hm h1 h2 fun σ vs x y H hA Q q => ⟨d.p, ps l, by rw [hK]; exact hA.pop.bears (.im k1), by rw [hK]; exact src_bears hA s k2, (BT.im (Γ := Γ) k1).lay, oks_lay k2, k3, q _ H (hA.pop.pop.pushIm Ext.refl (by unfold rD; rw [k4]))⟩
end
end RL

set_option maxHeartbeats 4000000
/-! RL51: a list walked from its end; dicts of lists on their own -/
namespace RL
open PySem L2 PySem.Spec PyProof.Rows
section
variable {X : Cx} {C : Cn} {Γ Γ1 Γ2 Γ3 Γ' : Ctx} {Ts Hs : List T} {t : T} {e a b nm iter tg : Expr} {pos p : Pos} {i j : Nat} {d : D} {ds : List D} {m m1 m2 : M} {α : Type} {enc : α → D} {K : PySem.W.Frag} {H : Hp}
/-! ### dicts of lists on their own -/
/-! ### small ones -/
theorem eq_negc {n : Int} {kk : Nat} {q0 : Pos} : EQ X C Γ (.UnaryOp .USub (.Constant (.int n) kk q0) pos) (.int (-n)) := ⟨_, pe_un un_neg pe_int, fun σ H Ts vs Q hA q => ⟨n, rfl, q _ (by unfold rD; rfl)⟩⟩
end
end RL

set_option maxHeartbeats 4000000
/-! RL52: errors of own classes that keep a field: super().__init__('..'), self.f = f -/
namespace RL
open PySem L2 PySem.Spec PyProof.Rows PySem.Calls
section
variable {prog : Program} {w : World} {A : Around} {R : Result → Shared → Prop} {K : PySem.W.Frag}
end
end RL

set_option maxHeartbeats 4000000
/-! RL53: such errors made and raised; what the top leaves of them -/
namespace RL
open PySem L2 PySem.Spec PyProof.Rows PySem.Calls
/-- such an __init__ as it is written -/
structure InitD where
  name : Str
  qual : Str
  params : Arguments
  body : List Stmt
  scope : Scope
abbrev InW : Type := Option (Str × Str × Arguments × FuncBody × Scope × Addr × List Str × Addr)
def InitD.val (d : InitD) : InW := some (d.name, d.qual, d.params, .stmts d.body, d.scope, mainGlobals, ["__class__"], builtinsNs)
def initW (K : PySem.W.Frag) (y : Str) : InW := match K.lookup (He.ma K (He.ga K y) "__init__") with
  | some ⟨_, _, .func fd, _⟩ => some (fd.name, fd.qualname, fd.params, fd.body, fd.scope, fd.globals, fd.closure.map (·.1), fd.builtins)
  | _ => none
/-- what is known of a class of errors that keeps a field -/
structure SupF (P : Program) (K : PySem.W.Frag) (mg : Str → Option Value) (y f : Str) (C : Addr) (d : InitD) : Prop where
  g : mg y = some (.ref C)
  gs : mg "super" = none
  k : PySem.W.keepIn K (.ref C) = true
  cls : ∃ nc q N bs bm sn sub ab col dd k0 k1 k2 k3 k5, K.lookup C = some (excClassObj nc q C N bs bm true sn sub ab col dd k0 k1 k2 k3 k5 "ValueError.__new__") ∧ PySem.HandSPX.refsVE bm = true ∧ PySem.W.alongIn K "__init__" bm = some (some (.builtin "ValueError.__init__"))
  ini : ∃ fI cc cda oc od osl kV doc pm an ct ccl cdd vs ccs file tf cl cld csl, PySem.W.findIn K (.ref C) "__init__" = some (some (.ref fI)) ∧ PySem.W.typeIn K (.ref fI) = some (.type "function") ∧
    K.lookup fI = some ⟨oc, od, .func (PySem.W.ksFn d.name d.qual d.params d.body d.scope .none kV doc pm an (.ref cda) ct cc), osl⟩ ∧ PySem.W.codeIn K (.ref cda) d.qual = true ∧ K.lookup cda = some ⟨ccl, cdd, .fields vs, ccs⟩ ∧ vs[2]? = some (.str file tf) ∧ ((P.main.file : Str) == file) = true ∧
    K.lookup cc = some ⟨cl, cld, .cell (some (.ref C)), csl⟩
  top : (P.main.scope.names.lookup ("super" : Str)).isSome = false
  sa : PySem.W.findIn K (.ref C) "__setattr__" = some (some (.builtin "object.__setattr__"))
  no : PySem.W.findIn K (.ref C) f = some none
  th : PySem.W.nsIn K cStatics "thirdparty.any" = some none
  sub : PySem.W.mroIn K C (.ref C) = some true
  vB : PySem.W.subIn K (.ref C) (.type "ValueError") = some true
  bE : PySem.W.subIn K (.ref C) (.type "BaseException") = some true
  ty : PySem.W.typeIn K (.ref C) = some (.type "type")
end RL

set_option maxHeartbeats 4000000
/-! RL54: raise y(e), y keeping e -/
namespace RL
open PySem L2 PySem.Spec PyProof.Rows PySem.Calls
/-- the writing of such an __init__ -/
structure InitOk (d : InitD) (f : Str) : Prop where
  s : ∃ self pl txt ar p0 p1 p2 p3 p4 p5 p6 p7 p8 p9 kk, d.body = [.Expr (.Call (.Attribute (.Call (.Name "super" p0) [] [] p1) "__init__" p2) [.Constant (.str txt) kk p3] [] p4) p5, .Assign [.Attribute (.Name self p6) f p7] (.Name pl p8) p9] ∧
    (d.params.posonlyargs ++ d.params.args).head? = some ar ∧ ar.arg = self ∧ self ≠ pl ∧ d.scope.names.lookup self = some .local ∧ d.scope.names.lookup pl = some .local ∧ (self == ("__debug__" : Str)) = false ∧ (pl == ("__debug__" : Str)) = false ∧
    (∃ plS : Addr → Addr → Addr → Addr → Sem Bool, ∀ (L fI cc cda : Addr), eval (.Call (.Attribute (.Call (.Name "super" p0) [] [] p1) "__init__" p2) [.Constant (.str txt) kk p3] [] p4) (PySem.W.ksEnv d.qual d.scope L fI (.ref cda) cc) = (do
      let ov ← attributeBase (.Call (.Name "super" p0) [] [] p1) "__init__" (PySem.W.ksEnv d.qual d.scope L fI (.ref cda) cc) (eval (.Call (.Name "super" p0) [] [] p1) (PySem.W.ksEnv d.qual d.scope L fI (.ref cda) cc))
      standAt p2.atName
      let (f, first) ← holding [ov] (getMethod ov "__init__" (plS L fI cc cda))
      callWith p4 f first (backTo p4 (starEach [.Constant (.str txt) kk p3] (PySem.W.ksEnv d.qual d.scope L fI (.ref cda) cc))) [])) ∧
    ∀ (kV doc pm ct : Value) (an : Option Addr) (cda cc : Addr) (v u : Value), bindArgs (PySem.W.ksFn d.name d.qual d.params d.body d.scope .none kV doc pm an (.ref cda) ct cc) ⟨[v, u], []⟩ = pure [(self, v), (pl, u)]
  ks : d.scope.names.lookup ("super" : Str) = some .globalImplicit
  kc : d.scope.names.lookup ("__class__" : Str) = some .free
  k : d.scope.kind = .function
  co : d.scope.isCoroutine = false
  gen : d.scope.isGenerator = false
  cl : ∀ x ∈ d.scope.names, x.2 ≠ .cell
  int : ∀ (L fI cc cda : Addr), interactive (PySem.W.ksEnv d.qual d.scope L fI (.ref cda) cc) = false
section
variable {X : Cx} {e : Expr} {te : TE} {y f : Str} {C : Addr} {d : InitD} {p pos : Pos} {k : Nat}
end
end RL

set_option maxHeartbeats 4000000
/-! RL55: such errors caught, their field read -/
namespace RL
open PySem L2 PySem.Spec PyProof.Rows PySem.Calls
section
variable {C : Cn} {Γ : Ctx} {Ts : List T} {σ : L2.St} {vs : List V} {H : Hp} {i : Nat} {v : V}
end
section
variable {X : Cx} {C : Cn} {Hs : List T} {Γ Γx Γ' : Ctx} {i : Nat} {n x f : Str} {c : Value} {np pos pos' : Pos} {body suite : List Stmt} {b₀ : Stmt} {e : Exn} {m : M} {D : Addr} {dv : RL.D}
end
section
variable {X : Cx} {C : Cn} {Γ : Ctx} {Ts : List T} {i : Nat} {a D dd : Addr} {oe : Obj} {pn : List (Addr × Obj)} {nme : Expr} {f : Str} {p2 pos : Pos} {v : V} {dv : RL.D}
end
end RL

set_option maxHeartbeats 4000000
/-! RL56: isinstance of a caught error that keeps a field -/
namespace RL
open PySem L2 PySem.Spec PyProof.Rows PySem.Calls PySem.W
section
variable {prog : Program} {w : World} {A : Around} {E : Value → Shared → Prop} {s : Shared} {K : Frag} {x D : Addr} {ox : Obj} {od : Option Obj}
end
section
variable {X : Cx} {C : Cn} {Γ : Ctx} {Ts : List T} {i : Nat} {a D Y dd : Addr} {oe : Obj} {pn : List (Addr × Obj)} {nme : Expr} {y f : Str} {p p2 pos : Pos} {b : Bool} {v : V} {dv : RL.D}
end
end RL

set_option maxHeartbeats 4000000
/-! RL57: try with errors that keep a field; what the top leaves of their classes -/
namespace RL
open PySem L2 PySem.Spec PyProof.Rows
section
variable {X : Cx} {C : Cn} {Hs : List T} {Γ Γx : Ctx} {i : Nat} {n x f : Str} {c : Value} {np pos pos' : Pos} {body suite : List Stmt} {b₀ : Stmt} {m : M} {R : Type} {p : Except Exn R} {g : R → M}
end
/-! ### what the top leaves -/
abbrev AlS : Type := (Bool × He.AlD) × List InW
def obsSI (z : PySem.W.Frag → Bool) (iz : List (Str × InitD)) (fa : List He.Fa) (fn : List He.DefD) (K : PySem.W.Frag) : AlS := (obsZ z fa fn K, iz.map fun p => initW K p.1)
def valSI (iz : List (Str × InitD)) (fn : List He.DefD) : AlS := ((true, He.valD fn), iz.map fun p => p.2.val)
def SaysSI (z : PySem.W.Frag → Bool) (iz : List (Str × InitD)) (fa : List He.Fa) (fn : List He.DefD) (K : PySem.W.Frag) : Prop := obsSI z iz fa fn K = valSI iz fn
section
variable {z : PySem.W.Frag → Bool} {iz : List (Str × InitD)} {fa : List He.Fa} {fn : List He.DefD} {K : PySem.W.Frag}
theorem SaysSI.y (c : SaysSI z iz fa fn K) : SaysZ z fa fn K := congrArg (fun q : AlS => q.1) c
theorem SaysSI.ini (c : SaysSI z iz fa fn K) (n : Nat) {y : Str} {d : InitD} (h : iz[n]? = some (y, d) := by rfl) : initW K y = d.val := by
  have e : iz.map (fun p => initW K p.1) = iz.map fun p => p.2.val := congrArg (fun q : AlS => q.2) c
  have e2 := congrArg (fun l => l[n]?) e
  simpa [List.getElem?_map, h] using e2
end
end RL

set_option maxHeartbeats 4000000
/-! RL58: loops within which something is raised -/
namespace RL
open PySem L2 PySem.Spec PyProof.Rows
def Out.ox {S R : Type} (Γs : S → Ctx) (ρ : R → Ctx × M) (Γe : Ctx) : Out S (Except Exn R) → OX
  | .nx s => .en (.nx (Γs s))
  | .bk s => .en (.bk (Γs s))
  | .ct s => .en (.ct (Γs s))
  | .rt (.ok r) => .en (.rt (ρ r).1 (ρ r).2)
  | .rt (.error e) => .ex Γe e
def srX (mg : Str → Option Value) (C : Cn) (W : WX) (Hs : List T) (Γ : Ctx) : OX → TS
  | .en o => sr C Hs Γ o
  | .ex Γ' e => fun _ σ H => xrd mg C Hs Γ Γ' W e σ H
section
variable {X : Cx} {mg : Str → Option Value} {C : Cn} {W : WX} {Hs : List T} {Γ : Ctx} {tg iter : Expr} {body sts : List Stmt} {pos : Pos} {S α R : Type} {s0 : S} {Γs : S → Ctx} {ρ : R → Ctx × M} {Γe : Ctx} {o : OX}
theorem SG.ps (h : SG X mg C W Hs Γ sts o) : PSs X sts (srX mg C W Hs Γ o) := by
  cases o with
  | en o => exact h
  | ex Γ' e => exact h
theorem S1G.of {st : Stmt} (h : PS X st (srX mg C W Hs Γ o)) : S1G X mg C W Hs Γ st o := by
  cases o with
  | en o => exact h
  | ex Γ' e => exact h
end
end RL

set_option maxHeartbeats 4000000
/-! RL59: texts are walked -/
namespace RL
open PySem L2 PySem.Spec PyProof.Rows
def sgn (c : Nat) : Str := ⟨#[c]⟩
/-- a text, sign by sign -/
def signs (z : Str) : List Str := z.cps.toList.map sgn
section
variable {P : Program} {w : World} {A : Around} {E : Value → Shared → Prop} {s : Shared}
end
section
variable {X : Cx} {C : Cn} {Γ Γ1 Γ2 : Ctx} {Hs Ts : List T} {a b e tg iter : Expr} {z z2 : Str} {pos p : Pos} {n m : Int}
end
end RL

set_option maxHeartbeats 4000000
/-! RL60: texts joined, cut, repeated, asked -/
namespace RL
open PySem L2 PySem.Spec PyProof.Rows
section
variable {X : Cx}
end
section
variable {X : Cx} {C : Cn} {Γ Γ1 Γ2 Γ3 : Ctx} {Hs Ts : List T} {t : T} {a b e : Expr} {z z2 : Str} {pos p p2 apos : Pos} {n m : Int} {α : Type} {enc : α → D} {xs : List α} {ys : List Str}
end
end RL

set_option maxHeartbeats 4000000
/-! RL61: index of a text -/
namespace RL
open PySem L2 PySem.Spec PyProof.Rows
section
variable {X : Cx} {C : Cn} {Γ Γ1 Γ2 : Ctx} {Ts : List T} {a e : Expr} {z z2 : Str} {pos apos : Pos} {n : Int}
end
end RL

set_option maxHeartbeats 4000000
/-! RL62: enumerate over a zip of two: zip's own tuple may be held by enumerate's -/
namespace RL
open PySem L2 PySem.W
section
variable {prog : Program} {w : World} {A : Around} {E : Value → Shared → Prop} {s : Shared} {z TI TO i1 i2 : Addr} {fp1 fp2 : List Addr} {n1 n2 i : Nat} {P1 P2 : Nat → Value → Prop} {St1 St2 : Nat → Heap → Prop}
abbrev ZipAt (h : Heap) (z TI TO : Addr) (f0 : Value) (b : Bool) : Prop :=
  h.get? z = some { cls := .type "zip", dict := none, data := .fields #[f0, .bool b, .bool false, .ref TI, .ref TO], slots := #[] }
def ZipSt (h : Heap) (z TI TO : Addr) : Prop := ∃ f0 b, ZipAt h z TI TO f0 b ∧ (f0 = .none ∨ ∃ T : Nat, f0 = rawInt T)
/-! ### enumerate, whatever it walks -/
end
end RL

set_option maxHeartbeats 4000000
/-! RL63: enumerate(zip(a tuple, a list)) -/
namespace RL
open PySem L2 PySem.W PySem.Spec PyProof.Rows
/-- where all of it lies -/
structure EzAt (e z TI TO i1 i2 a c : Addr) : Prop where
  Z : ZipApart z TI TO i1 i2 a c
  ez : e ≠ z
  eI : e ≠ TI
  eO : e ≠ TO
  e1 : e ≠ i1
  e2 : e ≠ i2
  ea : e ≠ a
  ec : e ≠ c
  a2 : a ≠ i2
  c1 : c ≠ i1
section
variable {P : Program} {w : World} {K : PySem.W.Frag} {elts : List Expr} {kk : Nat} {tpos : Pos} {e z TI TO i1 i2 a c : Addr}
def ezTn (e z TI TO i1 i2 a c : Addr) (i : Nat) (h : Heap) : Prop :=
  (∃ old, IsEnum h e z ((i : Nat) : Int) old) ∧ ZipSt h z TI TO ∧ IsTupOf2 h TI (.ref i1) (.ref i2) ∧ (∃ x y, IsTupOf2 h TO x y) ∧ h.IsTupleIter i1 a i ∧ h.IsListIter i2 c i
theorem ez_cases {b : Addr} (hb : b ∈ [e, z, TI, TO, i1, i2]) : b = e ∨ b = z ∨ b = TI ∨ b = TO ∨ b = i1 ∨ b = i2 := by simpa using hb
theorem ezTn.at {i : Nat} {h : Heap} (st : ezTn e z TI TO i1 i2 a c i h) {b : Addr} (hb : b ∈ [e, z, TI, TO, i1, i2]) : ∃ o, h.get? b = some o ∧ ∀ v, o.data ≠ .cell v := by
  obtain ⟨⟨old, he⟩, ⟨f0, fb, hz, _⟩, hTI, ⟨x, y, hTO⟩, ⟨o1, q1, _, d1⟩, ⟨o2, q2, _, d2⟩⟩ := st
  rcases ez_cases hb with q | q | q | q | q | q
  · rw [q]; exact ⟨_, he, fun v q => nomatch q⟩
  · rw [q]; exact ⟨_, hz, fun v q => nomatch q⟩
  · rw [q]; exact ⟨_, hTI, fun v q => nomatch q⟩
  · rw [q]; exact ⟨_, hTO, fun v q => nomatch q⟩
  · rw [q]; exact ⟨o1, q1, fun v q => by rw [d1] at q; cases q⟩
  · rw [q]; exact ⟨o2, q2, fun v q => by rw [d2] at q; cases q⟩
theorem ZipSt.mono {h h' : Heap} (hz : ZipSt h z TI TO) (k : ∀ o, h.get? z = some o → h'.get? z = some o) : ZipSt h' z TI TO := by
  obtain ⟨f0, fb, q, r⟩ := hz
  exact ⟨f0, fb, k _ q, r⟩
theorem ezTn.keep {i : Nat} {h h' : Heap} (st : ezTn e z TI TO i1 i2 a c i h) (k : ∀ b ∈ [e, z, TI, TO, i1, i2], ∀ o, h.get? b = some o → h'.get? b = some o) : ezTn e z TI TO i1 i2 a c i h' := by
  obtain ⟨⟨old, he⟩, hz, hTI, ⟨x, y, hTO⟩, h1, h2⟩ := st
  exact ⟨⟨old, k e (by simp) _ he⟩, hz.mono fun o q => k z (by simp) o q, k TI (by simp) _ hTI, ⟨x, y, k TO (by simp) _ hTO⟩, h1.at fun o q => k i1 (by simp) o q, h2.at fun o q => k i2 (by simp) o q⟩
end
end RL

set_option maxHeartbeats 4000000
/-! RL64: enumerate(zip(a tuple, a list)) begins, and is walked -/
namespace RL
open PySem L2 PySem.W PySem.Spec PyProof.Rows
open PySem.AutoSeq1 (wpAny_loadPart')
section
variable {P : Program} {w : World} {A : Around} {E : Value → Shared → Prop} {s : Shared}
end
/-! ### in the layer -/
def ZPL (K : PySem.W.Frag) (ds es : List D) (v : V) (H : Hp) : Prop := ∃ (a b : Addr) (us ws : List V), v = .str ⟨#[a, b]⟩ ∧ SqT K H a us ∧ FzL K H b ws ∧ rDs K ds us H ∧ rDs K es ws H
theorem ZPL.st {K : PySem.W.Frag} {ds es : List D} {v : V} : ∀ H H', TF H H' → ZPL K ds es v H → ZPL K ds es v H' := fun H H' t ⟨a, b, us, ws, e, h1, h2, h3, h4⟩ => ⟨a, b, us, ws, e, t.sqt h1, t.fzl h2, h3.tf t, h4.tf t⟩
section
variable {X : Cx} {C : Cn} {Γ Γ1 Γ2 : Ctx} {Hs : List T} {a b : Expr} {p p2 pos pos2 tpos : Pos} {α β : Type} {f : α → D} {g : β → D} {xs : List α} {ys : List β}
end
end RL

set_option maxHeartbeats 4000000
/-! RL65: is some datum the same as a plain one without truths? -/
namespace RL
open PySem L2 PySem.Spec PyProof.Rows
mutual
/-- plain data without truths, of a bounded depth -/
def D.pn : Nat → D → Bool
  | _, .non => true
  | _, .int _ => true
  | _, .str _ => true
  | 0, .tup _ => false
  | n + 1, .tup l => pns n l
  | _, _ => false
def pns : Nat → List D → Bool
  | _, [] => true
  | n, d :: l => D.pn n d && pns n l
end
end RL

set_option maxHeartbeats 4000000
/-! RL66: lists put together, locked ones too -/
namespace RL
open PySem L2 PySem.Spec PyProof.Rows
def rCatQ (K : PySem.W.Frag) : R2 := fun x y H Q => ∃ (l b : Addr) (xs zs : List V), x = .ref l ∧ y = .ref b ∧ SqL K H l xs ∧ SqL K H b zs ∧ xs.length + zs.length ≤ sizeLine ∧ ∀ p, H p = none → Q (.ref p) (upd H p (.lst (xs ++ zs)))
theorem op_catQ {X : Cx} : OpR X (binaryOp .Add) (rCatQ X.K) := by
  intro pins s σ H x y v u Q I rx ry h
  obtain ⟨l, b, xs, zs, rfl, rfl, hH, hB, hz, q⟩ := h
  cases rx
  cases ry
  obtain ⟨its, r, p1, _⟩ := I.list hH
  obtain ⟨its2, r2, p2, _⟩ := I.list hB
  have l1 := r.length
  have l2 := r2.length
  obtain ⟨⟨cls, dd, data, sl⟩, n, ho, hc, hdd, hd⟩ := id p1
  obtain ⟨⟨cls2, dd2, data2, sl2⟩, n2, ho2, hc2, hdd2, hd2⟩ := id p2
  simp only at hc hd hc2 hd2
  subst hc hd hc2 hd2
  have e : its.toArray ++ its2.toArray = (its ++ its2).toArray := by simp
  refine concat_meets ⟨_, ho, rfl⟩ ⟨_, ho2, rfl⟩ noFill_list_add seq_list_add PySem.F.slot_list_add PySem.F.entry_list_add (PySem.F.args_list_add_2 _ _) (list_addW l b its.toArray its2.toArray n n2 dd dd2 sl sl2 (by rw [List.size_toArray, List.size_toArray]; omega)) ⟨ho, ho2, ?_⟩
  rw [e]
  exact ⟨.ref _, _, I.lnew (t' := s.toks) (r.append r2) (by rw [List.length_append]; omega), rfl, q _ I.fresh⟩
section
variable {X : Cx} {C : Cn} {Γ Γ1 Γ2 : Ctx} {Ts : List T} {a b : Expr} {pos : Pos} {t1 t2 : T} {ds ds' : List D} {α : Type} {enc : α → D} {xs ys : List α}
theorem ee_catQ (h1 : EE X C Γ Ts a Γ1 t1) (h2 : EE X C Γ1 (Ts ++ [t1]) b Γ2 t2) (s1 : Src Γ2 t1 ds) (s2 : Src Γ2 t2 ds') (hl : ds.length + ds'.length ≤ sizeLine) (hK : X.K = C.K := by rfl) : EE X C Γ Ts (.BinOp a .Add b pos) Γ2 (.own (.li (ds ++ ds'))) := ee_op op_catQ h1 h2 fun σ vs x y H hA Q q => by
  obtain ⟨p, us, rfl, hp, r1⟩ := hA.pop.src s1
  obtain ⟨q', ws, rfl, hq, r2⟩ := hA.src s2
  refine ⟨p, q', us, ws, rfl, rfl, by rw [hK]; exact hp, by rw [hK]; exact hq, by rw [r1.len, r2.len]; exact hl, fun n hn => q _ _ (hA.pop.pop.push (Ext.new hn) (t := .own (.li (ds ++ ds'))) (F := fun x => x = n) ?_ (fun x e => by rw [e]; exact hn) fun x e => by rw [e, upd_same]; trivial)⟩
  show rM _ _ _ _ _
  unfold rM
  exact ⟨n, _, rfl, upd_same, (r1.app r2).tf (Ext.new hn).tf, fun _ => Iff.rfl⟩
theorem ee_catQE (h1 : EE X C Γ Ts a Γ1 t1) (h2 : EE X C Γ1 (Ts ++ [t1]) b Γ2 t2) (s1 : Src Γ2 t1 (xs.map enc)) (s2 : Src Γ2 t2 (ys.map enc)) (hl : xs.length + ys.length ≤ sizeLine) (hK : X.K = C.K := by rfl) : EE X C Γ Ts (.BinOp a .Add b pos) Γ2 (.own (.li ((xs ++ ys).map enc))) := by
  rw [List.map_append]
  exact ee_catQ h1 h2 s1 s2 (by rw [List.length_map, List.length_map]; exact hl) hK
end
end RL

set_option maxHeartbeats 4000000
/-! RL67: zip of two and of three, tuples and lists in any mix -/
namespace RL
open PySem L2 PySem.W PySem.Spec PyProof.Rows
inductive SK where
  | t | l
def SqK (K : PySem.W.Frag) (k : SK) (H : Hp) (a : Addr) (xs : List V) : Prop := match k with
  | .t => SqT K H a xs
  | .l => SqL K H a xs
def ItK (k : SK) (h : Heap) (it a : Addr) (i : Nat) : Prop := match k with
  | .t => h.IsTupleIter it a i
  | .l => h.IsListIter it a i
theorem ItK.at {k : SK} {h h' : Heap} {it a : Addr} {i : Nat} (x : ItK k h it a i) (q : ∀ o, h.get? it = some o → h'.get? it = some o) : ItK k h' it a i := by
  cases k
  · exact Heap.IsTupleIter.at x q
  · exact Heap.IsListIter.at x q
theorem ItK.obj {k : SK} {h : Heap} {it a : Addr} {i : Nat} (x : ItK k h it a i) : ∃ o, h.get? it = some o ∧ ∀ v, o.data ≠ .cell v := by
  cases k
  all_goals
    obtain ⟨o, q, _, d⟩ := x
    exact ⟨o, q, fun v z => by rw [d] at z; cases z⟩
/-- what is new where iter(v) begins -/
def begO (k : SK) (a : Addr) : Obj := match k with
  | .t => { cls := .type "tuple_iterator", data := .fields #[.ref a, .int 0 0] }
  | .l => { cls := .type "list_iterator", data := .fields #[.ref a, .int 0 0] }
theorem itK_new {k : SK} {h : Heap} {it a : Addr} (e : h.get? it = some (begO k a)) : ItK k h it a 0 := by
  cases k
  all_goals exact ⟨_, e, rfl, rfl⟩
section
variable {X : Cx} {pins : List (Addr × Obj)} {σ : L2.St} {H : Hp} {s : Shared} {xs ys : List V} {a it : Addr} {k : SK}
theorem sqK_inj (I : Inv X pins σ H s) (h : SqK X.K k H a xs) (h' : SqK X.K k H a ys) : xs = ys := by
  cases k
  · exact I.tuple_inj h h'
  · exact I.list_inj h h'
theorem sqK_lt (I : Inv X pins σ H s) (h : SqK X.K k H a xs) : a < s.heap.objs.size := by
  cases k
  · obtain ⟨its, rv, p, _⟩ := I.tuple h
    obtain ⟨o, ho, _⟩ := id p
    exact Heap.lt_size ho
  · obtain ⟨its, rv, p, _⟩ := I.list h
    exact p.lt
/-- what an iterator over it draws -/
theorem drawsK (I : Inv X pins σ H s) (h : SqK X.K k H a xs) (ne : a ≠ it) {A : Around} (hd : A.handled = none) : ∃ (its : List Value) (Cn : Heap → Prop), Vals xs its ∧ Cn s.heap ∧ Draws X.prog X.w A it [it, a] its.length (fun i v => its[i]? = some v) (fun i h => ItK k h it a i ∧ Cn h) := by
  cases k
  · obtain ⟨its, rv, p, _⟩ := I.tuple h
    have d := Draws.tuple (prog := X.prog) (w := X.w) hd it a ne its.toArray
    rw [List.size_toArray] at d
    simp only [List.getElem?_toArray] at d
    exact ⟨its, fun h => h.IsTuple a its.toArray, rv, p, d⟩
  · obtain ⟨its, rv, p, _⟩ := I.list h
    have d := Draws.list (prog := X.prog) (w := X.w) hd it a ne its.toArray
    rw [List.size_toArray] at d
    simp only [List.getElem?_toArray] at d
    exact ⟨its, fun h => h.IsList a its.toArray, rv, p.isList, d⟩
theorem beginsK (I : Inv X pins σ H s) (h : SqK X.K k H a xs) : ∃ W : Heap → Prop, Begins (.ref a) (begO k a) W ∧ W s.heap := by
  cases k
  · obtain ⟨its, rv, p, _⟩ := I.tuple h
    exact ⟨_, begins_tuple a its.toArray, p⟩
  · obtain ⟨its, rv, p, _⟩ := I.list h
    exact ⟨_, begins_list a its.toArray, p.isList⟩
end
/-! ### two -/
def Itz2 (K : PySem.W.Frag) (k1 k2 : SK) (a b : Addr) : It :=
  ⟨fun i H => ∃ (xs ys : List V) (x y : V), SqK K k1 H a xs ∧ SqK K k2 H b ys ∧ xs[i]? = some x ∧ ys[i]? = some y,
    fun i H v H' => ∃ T x y, v = .ref T ∧ H T = none ∧ H' = upd H T (.tup [x, y]) ∧ (∀ xs, SqK K k1 H a xs → xs[i]? = some x) ∧ ∀ ys, SqK K k2 H b ys → ys[i]? = some y,
    fun i H => ∃ xs ys : List V, SqK K k1 H a xs ∧ SqK K k2 H b ys ∧ i = min xs.length ys.length⟩
def tn2 (k1 k2 : SK) (z TI TO i1 i2 a b : Addr) (i : Nat) (h : Heap) : Prop := IsZip h z TI TO .none ∧ IsTupOf2 h TI (.ref i1) (.ref i2) ∧ (∃ x y, IsTupOf2 h TO x y) ∧ ItK k1 h i1 a i ∧ ItK k2 h i2 b i
theorem turn_z2 {P : Program} {w : World} {K : PySem.W.Frag} {elts : List Expr} {kk : Nat} {tpos : Pos} {k1 k2 : SK} {a b z TI TO i1 i2 : Addr} (D : ZipSep2 z TI TO i1 i2 [i1, a] [i2, b]) (n1 : a ≠ i1) (n2 : b ≠ i2) :
    Turn P w K (.Tuple elts kk tpos) (Itz2 K k1 k2 a b) [z, TI, TO, i1, i2] z (tn2 k1 k2 z TI TO i1 i2 a b) := by
  have at_ : ∀ i h, tn2 k1 k2 z TI TO i1 i2 a b i h → ∀ c ∈ [z, TI, TO, i1, i2], ∃ o, h.get? c = some o ∧ ∀ v, o.data ≠ .cell v := fun i h st c hc => by
    obtain ⟨hz, hTI, ⟨x, y, hTO⟩, h1, h2⟩ := st
    have e' : c = z ∨ c = TI ∨ c = TO ∨ c = i1 ∨ c = i2 := by simpa using hc
    rcases e' with q | q | q | q | q
    · rw [q]; exact ⟨_, hz, fun v q => nomatch q⟩
    · rw [q]; exact ⟨_, hTI, fun v q => nomatch q⟩
    · rw [q]; exact ⟨_, hTO, fun v q => nomatch q⟩
    · rw [q]; exact h1.obj
    · rw [q]; exact h2.obj
  constructor
  · simp
  · exact at_
  · intro i h h' ⟨hz, hTI, ⟨x, y, hTO⟩, h1, h2⟩ k
    exact ⟨k z (by simp) _ hz, k TI (by simp) _ hTI, ⟨x, y, k TO (by simp) _ hTO⟩, h1.at fun o q => k i1 (by simp) o q, h2.at fun o q => k i2 (by simp) o q⟩
  · intro X hP hw hK hc i pins s σ H E I hf st hg
    subst hP hw hK
    have lt : ∀ c ∈ [z, TI, TO, i1, i2], c < s.heap.objs.size := fun c hc => by
      obtain ⟨o, ho, _⟩ := at_ i _ st c hc
      exact Heap.lt_size ho
    obtain ⟨hz, hTI, hTO, h1, h2⟩ := st
    obtain ⟨xs, ys, x, y, hqx, hqy, hx, hy⟩ := hg
    have hd : X.A.in1.handled = none := I.ok.hd hc
    obtain ⟨its, C1, rv, c1, D1⟩ := drawsK I hqx n1 (A := X.A.in1) hd
    obtain ⟨its2, C2, rv2, c2, D2⟩ := drawsK I hqy n2 (A := X.A.in1) hd
    obtain ⟨u, hu, ru⟩ := rv.get hx
    obtain ⟨u2, hu2, ru2⟩ := rv2.get hy
    have m1 := (List.getElem?_eq_some_iff.mp hu).1
    have m2 := (List.getElem?_eq_some_iff.mp hu2).1
    have G := GoesN.zip2 (elts := elts) (x1 := kk) (pos := tpos) D D1 D2
    refine thn (G.goes i s (fun v s2 => ∃ x H', Inv X pins σ H' s2 ∧ RelV x v ∧ (Itz2 X.K k1 k2 a b).yld i H x H' ∧ tn2 k1 k2 z TI TO i1 i2 a b (i + 1) s2.heap ∧ ∀ b ∈ [z, TI, TO, i1, i2], H' b = none) E (by omega) ⟨hz, hTI, hTO, ⟨h1, c1⟩, ⟨h2, c2⟩⟩ fun v h' tk hY st' hk htk => ?_) fun r s1 ⟨v, e, q⟩ => ⟨v, e, q⟩
    obtain ⟨T, v1, v2, rfl, hT, p1, p2, hTT⟩ := hY
    rw [hu] at p1
    rw [hu2] at p2
    cases p1
    cases p2
    obtain ⟨oT, eT, cT, nT, dT⟩ := id hTT
    have new : ObjOk X.prog X.w (upd H T (.tup [x, y])) h' T (.tup [x, y]) :=
      ⟨by show 2 ≤ sizeLine; decide, [u, u2], .cons ru (.cons ru2 .nil), hTT⟩
    have I1 : Inv X pins σ (upd H T (.tup [x, y])) { s with heap := h', toks := tk } :=
      I.turnedNew (ch := [z, TI, TO, i1, i2]) (fun c o hb q => hk c o (fun z => hb (by simp at z ⊢; rcases z with z | z | z | z <;> simp [z])) q) hf hT new
    refine ⟨.ref T, _, I1, rfl, ⟨T, x, y, rfl, I.hok.fresh hT, rfl, fun l hl => by rw [sqK_inj I hl hqx]; exact hx, fun l hl => by rw [sqK_inj I hl hqy]; exact hy⟩, ?_, fun c hcm => ?_⟩
    · obtain ⟨z1, z2, z3, z4, z5⟩ := st'
      exact ⟨z1, z2, z3, z4.1, z5.1⟩
    · rw [upd_ne (Nat.ne_of_lt (Nat.lt_of_lt_of_le (lt c hcm) hT))]
      exact (hf c hcm).1
  · intro X hP hw hK hc i pins s σ H E I hf st hg
    subst hP hw hK
    obtain ⟨hz, hTI, hTO, h1, h2⟩ := st
    obtain ⟨xs, ys, hqx, hqy, hend⟩ := hg
    have hd : X.A.in1.handled = none := I.ok.hd hc
    obtain ⟨its, C1, rv, c1, D1⟩ := drawsK I hqx n1 (A := X.A.in1) hd
    obtain ⟨its2, C2, rv2, c2, D2⟩ := drawsK I hqy n2 (A := X.A.in1) hd
    have l1 := rv.length
    have l2 := rv2.length
    have G := GoesN.zip2 (elts := elts) (x1 := kk) (pos := tpos) D D1 D2
    subst hend
    rw [l1, l2] at h1 h2
    refine G.stops s (fun s1 => Inv X pins σ H s1) E ⟨hz, hTI, hTO, ⟨h1, c1⟩, ⟨h2, c2⟩⟩ fun h' tk hk htk => ?_
    exact I.turnedL (ch := [z, TI, TO, i1, i2]) (fun c o hb q => hk c o (fun z => hb (by simp at z ⊢; rcases z with z | z | z | z <;> simp [z])) q) hf
  · intro A i s Q E st h
    exact wpAny_pyIter_zip st.1 h
def iZip2 (K : PySem.W.Frag) (k1 k2 : SK) (ta : TA) : TI := fun σ H R => ta σ H fun vs H1 => ∃ a b xs ys, vs = [V.ref a, V.ref b] ∧ SqK K k1 H1 a xs ∧ SqK K k2 H1 b ys ∧ R (Itz2 K k1 k2 a b) H1
theorem pi_z2 {X : Cx} {e e2 : Expr} {ta : TA} {k1 k2 : SK} {p pos tpos : Pos} {elts : List Expr} {kk : Nat} (hg : Gl X "zip") (hm : X.mg "zip" = none) (ha : PA X [e, e2] ta)
    (hs : starEach [e, e2] X.env = (false, eval e X.env) :: starEach [e2] X.env := by rfl) (hpl : (backTo pos (starEach [e2] X.env)).any (·.1) = false := by rfl) :
    PI X (.Tuple elts kk tpos) (.Call (.Name "zip" p) [e, e2] [] pos) (iZip2 X.K k1 k2 ta) := by
  constructor
  intro pins s σ H R I h
  refine PyProof.Rows.Call_ (ld_blt I hg hm PyProof.Rows.boot_zip (PyProof.Rows.callWith_type1 (thn (ha.run pos pins s σ H _ I h) fun us s1 ⟨vs, H1, I1, r1, q1⟩ => ?_) hs hpl))
  obtain ⟨a, b, xs, ys, ex, hqx, hqy, q⟩ := q1
  subst ex
  cases r1 with
  | cons r rr =>
    cases rr with
    | cons r' rr =>
      cases rr
      cases r
      cases r'
      obtain ⟨W1, B1, w1⟩ := beginsK I1 hqx
      obtain ⟨W2, B2, w2⟩ := beginsK I1 hqy
      have la := sqK_lt I1 hqx
      have lb := sqK_lt I1 hqy
      refine zip_begins2 B1 B2 w1 w2 fun h' hz hTI hTO g1 g2 hsz hk => wpAny_pyIter_zip hz ?_
      have I2 : Inv X pins σ H1 { s1 with heap := h' } := I1.kept (t' := s1.toks) hk
      refine ⟨s1.heap.objs.size + 4, [s1.heap.objs.size + 4, s1.heap.objs.size + 2, s1.heap.objs.size + 3, s1.heap.objs.size, s1.heap.objs.size + 1], _, _, H1, rfl, I2, turn_z2 (zip_sep2 (N := s1.heap.objs.size) (fp1 := [a]) (fp2 := [b]) (by simpa using la) (by simpa using lb)) (Nat.ne_of_lt la) (Nat.ne_of_lt (Nat.lt_succ_of_lt lb)), ⟨hz, hTI, ⟨_, _, hTO⟩, itK_new g1, itK_new g2⟩, fun c hcm => ?_, q⟩
      have e' : c = s1.heap.objs.size + 4 ∨ c = s1.heap.objs.size + 2 ∨ c = s1.heap.objs.size + 3 ∨ c = s1.heap.objs.size ∨ c = s1.heap.objs.size + 1 := by simpa using hcm
      have hle : s1.heap.objs.size ≤ c := by
        rcases e' with z | z | z | z | z
        · rw [z]; exact Nat.le_add_right _ _
        · rw [z]; exact Nat.le_add_right _ _
        · rw [z]; exact Nat.le_add_right _ _
        · rw [z]; exact Nat.le_refl _
        · rw [z]; exact Nat.le_add_right _ _
      exact I1.fpOk hle (I1.hok.fresh hle)
/-! ### three -/
end RL

set_option maxHeartbeats 4000000
/-! RL68: zip of two and of three in the layer -/
namespace RL
open PySem L2 PySem.W PySem.Spec PyProof.Rows
def srcD (k : SK) (ds : List D) : D := match k with
  | .t => .tup ds
  | .l => .lst ds
def FzK (K : PySem.W.Frag) (k : SK) (H : Hp) (a : Addr) (xs : List V) : Prop := match k with
  | .t => SqT K H a xs
  | .l => FzL K H a xs
theorem FzK.tf {K : PySem.W.Frag} {k : SK} {H H' : Hp} {a : Addr} {xs : List V} (t : TF H H') (h : FzK K k H a xs) : FzK K k H' a xs := by
  cases k
  · exact t.sqt h
  · exact t.fzl h
theorem FzK.sq {K : PySem.W.Frag} {k : SK} {H : Hp} {a : Addr} {xs : List V} (h : FzK K k H a xs) : SqK K k H a xs := by
  cases k
  · exact h
  · exact FzL.sq h
theorem srcD_rD {K : PySem.W.Frag} {k : SK} {ds : List D} {v : V} {H : Hp} (h : rD K (srcD k ds) v H) : ∃ a us, v = .ref a ∧ FzK K k H a us ∧ rDs K ds us H := by
  cases k
  · unfold srcD at h
    simp only at h
    unfold rD at h
    obtain ⟨a, us, e, hq, rd⟩ := h
    exact ⟨a, us, e, hq.t, rd⟩
  · unfold srcD at h
    simp only at h
    unfold rD at h
    exact h
def ZK2 (K : PySem.W.Frag) (k1 k2 : SK) (ds es : List D) (v : V) (H : Hp) : Prop := ∃ (a b : Addr) (us ws : List V), v = .str ⟨#[a, b]⟩ ∧ FzK K k1 H a us ∧ FzK K k2 H b ws ∧ rDs K ds us H ∧ rDs K es ws H
theorem ZK2.st {K : PySem.W.Frag} {k1 k2 : SK} {ds es : List D} {v : V} : ∀ H H', TF H H' → ZK2 K k1 k2 ds es v H → ZK2 K k1 k2 ds es v H' := fun H H' t ⟨a, b, us, ws, e, h1, h2, h3, h4⟩ => ⟨a, b, us, ws, e, h1.tf t, h2.tf t, h3.tf t, h4.tf t⟩
def hz2 (K : PySem.W.Frag) (k1 k2 : SK) (ds es : List D) (v : V) : T := .hip v (ZK2 K k1 k2 ds es v) ZK2.st
theorem hz2_fix {K : PySem.W.Frag} {k1 k2 : SK} {ds es : List D} : Fix (hz2 K k1 k2 ds es) := fun K' σ v w H F h => h.1
def ZK3 (K : PySem.W.Frag) (k1 k2 k3 : SK) (ds es fs : List D) (v : V) (H : Hp) : Prop := ∃ (a b c : Addr) (us ws zs : List V), v = .str ⟨#[a, b, c]⟩ ∧ FzK K k1 H a us ∧ FzK K k2 H b ws ∧ FzK K k3 H c zs ∧ rDs K ds us H ∧ rDs K es ws H ∧ rDs K fs zs H
theorem ZK3.st {K : PySem.W.Frag} {k1 k2 k3 : SK} {ds es fs : List D} {v : V} : ∀ H H', TF H H' → ZK3 K k1 k2 k3 ds es fs v H → ZK3 K k1 k2 k3 ds es fs v H' := fun H H' t ⟨a, b, c, us, ws, zs, e, h1, h2, h3, h4, h5, h6⟩ => ⟨a, b, c, us, ws, zs, e, h1.tf t, h2.tf t, h3.tf t, h4.tf t, h5.tf t, h6.tf t⟩
section
variable {X : Cx} {C : Cn} {Γ Γ1 Γ2 Γ3 : Ctx} {Hs : List T} {a b c : Expr} {p pos tpos : Pos} {α β γ : Type} {f : α → D} {g : β → D} {e3 : γ → D} {xs : List α} {ys : List β} {zs : List γ} {k1 k2 k3 : SK}
theorem it_z2 {elts : List Expr} {kk : Nat} (k1 k2 : SK) (hm : X.mg "zip" = none) (h1 : EE X C Γ Hs a Γ1 (.im (srcD k1 (xs.map f)))) (h2 : EE X C Γ1 (Hs ++ [.im (srcD k1 (xs.map f))]) b Γ2 (.im (srcD k2 (ys.map g)))) (hg : Gl X "zip" := by rfl) (hK : X.K = C.K := by rfl)
    (hs : starEach [a, b] X.env = (false, eval a X.env) :: starEach [b] X.env := by rfl) (hsb : starEach [b] X.env = (false, eval b X.env) :: starEach [] X.env := by rfl) (hpl : (backTo pos (starEach [b] X.env)).any (·.1) = false := by rfl) :
    IT X C Hs (.Tuple elts kk tpos) (.Call (.Name "zip" p) [a, b] [] pos) Γ Γ2 (hz2 C.K k1 k2 (xs.map f) (ys.map g)) (fun _ => True) ((xs.zip ys).map (eW2 f g)) :=
  (pi_z2 (k1 := k1) (k2 := k2) hg hm (ea_cons h1 (ea_cons h2 ea_nil hsb) hs) hs hpl).wk fun σ H R ⟨hs, h0, q⟩ => ⟨hs, h0, fun us H1 hl hA => by
    obtain ⟨u, w, rfl⟩ : ∃ u w, us = [u, w] := match us, hl with | [u, w], _ => ⟨u, w, rfl⟩
    have hA' : As C Γ2 ((Hs ++ [.im (srcD k1 (xs.map f))]) ++ [.im (srcD k2 (ys.map g))]) σ ((hs ++ [u]) ++ [w]) H1 := by simpa using hA
    obtain ⟨pb, ws, rfl, hq, q2⟩ := srcD_rD hA'.topIm
    obtain ⟨pa, us, rfl, hp, q1⟩ := srcD_rD hA'.pop.topIm
    have hB := hA'.pop.pop
    have hC : As C Γ2 (Hs ++ [hz2 C.K k1 k2 (xs.map f) (ys.map g) (.str ⟨#[pa, pb]⟩)]) σ (hs ++ [.str ⟨#[pa, pb]⟩]) H1 := hB.push Ext.refl (t := hz2 C.K k1 k2 (xs.map f) (ys.map g) (.str ⟨#[pa, pb]⟩)) (F := e0) ⟨rfl, ⟨pa, pb, us, ws, rfl, hp, hq, q1, q2⟩, fun a z => z⟩ (fun a z => z.elim) fun a z => z.elim
    refine ⟨pa, pb, us, ws, rfl, by rw [hK]; exact hp.sq, by rw [hK]; exact hq.sq, q _ _ H1 hC ⟨fun H => ∃ us ws, SqK X.K k1 H pa us ∧ SqK X.K k2 H pb ws ∧ rDs C.K (xs.map f) us H ∧ rDs C.K (ys.map g) ws H, fun i H x H' => Ext H H' ∧ ∃ d, ((xs.zip ys).map (eW2 f g))[i]? = some d ∧ rD C.K d x H', ⟨?_, ?_, ?_⟩, ?_, ?_⟩⟩
    · rintro i H hi ⟨us, ws, s1, s2, r1, r2⟩
      rw [List.length_map, List.length_zip] at hi
      have l1 := r1.len
      have l2 := r2.len
      rw [List.length_map] at l1 l2
      obtain ⟨x1, hx1⟩ : ∃ x1, us[i]? = some x1 := ⟨_, List.getElem?_eq_getElem (by omega)⟩
      obtain ⟨y1, hy1⟩ : ∃ y1, ws[i]? = some y1 := ⟨_, List.getElem?_eq_getElem (by omega)⟩
      exact ⟨us, ws, x1, y1, s1, s2, hx1, hy1⟩
    · rintro H ⟨us, ws, s1, s2, r1, r2⟩
      have l1 := r1.len
      have l2 := r2.len
      rw [List.length_map] at l1 l2
      refine ⟨us, ws, s1, s2, ?_⟩
      rw [List.length_map, List.length_zip, l1, l2]
    · rintro i H x H' hi ⟨us, ws, s1, s2, r1, r2⟩ ⟨q0, x1, y1, e1, hn, e2, k1, k2⟩
      subst e1 e2
      obtain ⟨pr, hpr, g1, g2⟩ := zip_get r1 r2 (k1 us s1) (k2 ws s2)
      refine ⟨Ext.new hn, eW2 f g pr, by rw [List.getElem?_map, hpr] <;> rfl, ?_⟩
      unfold eW2
      unfold rD
      refine ⟨q0, _, rfl, SqT.of upd_same, ?_⟩
      unfold rDs
      exact ⟨_, _, rfl, g1.tf (Ext.new hn).tf, .one (g2.tf (Ext.new hn).tf)⟩
    · intro Γ' σ' hs' H' _ hD
      obtain ⟨F, ⟨_, ⟨a', b', us', ws', ev, s1, s2, r1, r2⟩, _⟩, _⟩ := hD.top
      injection ev with ev
      injection ev with ev
      have e1 := congrArg (fun z : Array Nat => z.toList) ev
      simp at e1
      obtain ⟨rfl, rfl⟩ := e1
      exact ⟨us', ws', by rw [hK]; exact s1.sq, by rw [hK]; exact s2.sq, r1, r2⟩
    · rintro i H' x H'' hi _ ⟨e1, d, hd, rd⟩
      exact ⟨e1, d, hd, rd⟩⟩
end
end RL

set_option maxHeartbeats 4000000
/-! RL69: more places where something raises: tuple(..), unpacking, what a loop walks -/
namespace RL
open PySem L2 PySem.Spec PyProof.Rows
section
variable {X : Cx} {mg : Str → Option Value} {C : Cn} {W : WX} {Hs : List T} {Γ Γ' : Ctx} {Ts : List T} {a e tg : Expr} {pos p p2 nm : Pos} {body : List Stmt} {x : Exn}
end
end RL

set_option maxHeartbeats 4000000
/-! RL70: a list that may change, many times -/
namespace RL
open PySem L2 PySem.Spec PyProof.Rows
section
variable {X : Cx} {C : Cn} {Γ Γ1 Γ2 : Ctx} {Ts : List T} {a b : Expr} {pos : Pos} {t1 : T} {α : Type} {enc : α → D} {xs : List α}
end
end RL

set_option maxHeartbeats 4000000
/-! RL71: four read as typed ones; typed ones read back -/
namespace RL
open PySem L2 PySem.Spec PyProof.Rows
section
variable {α β γ δ : Type} {g1 : D → Option α} {g2 : D → Option β} {g3 : D → Option γ} {g4 : D → Option δ} {f1 : α → D} {f2 : β → D} {f3 : γ → D} {f4 : δ → D}
end
end RL

set_option maxHeartbeats 4000000
/-! RL72: texts split, parted -/
namespace RL
open PySem L2 PySem.Spec PyProof.Rows
section
variable {X : Cx} {C : Cn} {Γ Γ1 Γ2 : Ctx} {Ts : List T} {a e : Expr} {z z2 : Str} {pos apos : Pos}
end
end RL

set_option maxHeartbeats 4000000
/-! RL73: sorted of data that are alike -/
namespace RL
open PySem L2 PySem.Spec PyProof.Rows
open PySem.W (AllAlike Sortable EachIs dataLe alike alikeAll sortVals dataKind SortsAt sortingHeap copyHeap copyHeap_at list_sort_vals sorting_copy_old sortVals_data sortVals_length each_map bound_map sorted_data)
section
open SrtO Srt
variable {P : Program} {w : World} {A : Around} {E : Value → Shared → Prop} {s : Shared} {β : Type} {R : Value → β → Prop} {enc : β → PyData} {vs : List Value} {bs : List β}
theorem sorted_tup_data {l : Addr} {Q : Value → Shared → Prop} (hl : s.heap.IsTuple l vs.toArray) (e : EachIs R vs bs) (er : EachIs (fun v b => ∃ as, Reads s.heap v (enc b) as) vs bs) (hal : AllAlike (bs.map enc)) (hk : Sortable (bs.map enc)) (hL : bs.length ≤ sizeLine)
    (hu : ∀ b, b ∈ bs → A.units + 2 + (enc b).depth < cLine) (h : ∀ out, out.length = bs.length → EachIs R out (bs.mergeSort (dataLe false enc)) → Q (.ref (s.heap.objs.size + 1)) { s with heap := sortedAll s.heap vs (List.toArray out) }) :
    wpAny (model P w) A (call (.builtin "sorted") [.ref l]) Q E s := by
  have er' : EachIs (fun v b => ∃ as, Reads (sortingHeap (copyHeap s.heap vs) (s.heap.objs.size + 1) vs) v (enc b) as) vs bs := er.mono fun _ _ ⟨as, r⟩ => ⟨as, PyProof.Rows.Reads.keeps (fun _ _ => sorting_copy_old) r⟩
  have S : SortsAt P w A.in1.in1 { s with heap := sortingHeap (copyHeap s.heap vs) (s.heap.objs.size + 1) vs } (dataKind (sortingHeap (copyHeap s.heap vs) (s.heap.objs.size + 1) vs) (bs.map enc)) vs :=
    SortsAt.data (s := { s with heap := sortingHeap (copyHeap s.heap vs) (s.heap.objs.size + 1) vs }) (each_map (R := fun v d => ∃ as, Reads (sortingHeap (copyHeap s.heap vs) (s.heap.objs.size + 1) vs) v d as) enc er') hal hk (bound_map hu)
  have hz : vs.length ≤ sizeLine := by rw [e.length]; exact hL
  have sz : (gHeap s.heap vs).objs.size = s.heap.objs.size + 1 := by
    rw [Heap.size_update]
    exact size_push' ..
  have q := h _ (by rw [sortVals_length false rfl]; exact e.length) (sortVals_data false e er' hal)
  apply Calls.call_function_entry kind_sorted plain_sorted entry_sorted (args_sorted1 _)
  unfold Builtin.«sorted»
  apply wpAny_bind (m := checkCount "sorted" 1 1 _)
  apply wpAny_pure
  apply wpAny_bind
  refine gather_tup hl hz ?_
  apply wpAny_bind
  refine wpAny_newList ?_ hz
  change wpAny _ _ _ _ _ { s with heap := copyHeap s.heap vs }
  rw [sz]
  apply wpAny_bind
  apply wpAny_holding
  refine wpAny_call_entry slot_list_sort ⟨_, copyHeap_at s.heap vs, rfl⟩ entry_list_sort (list_sort_vals (s := { s with heap := copyHeap s.heap vs }) (copyHeap_at s.heap vs) S hz ⟨_, rfl, ?_⟩) (args_list_sort _)
  exact wpAny_pure ⟨_, rfl, q⟩
end
theorem each_of {K : PySem.W.Frag} {H : Hp} : ∀ {ds : List D} {vs : List V} {us : List Value}, rDs K ds vs H → Vals vs us → EachIs (fun u d => ∃ v, rD K d v H ∧ RelV v u) us ds
  | [], vs, us, h, r => by unfold rDs at h; subst h; cases r; exact .nil
  | d :: ds, vs, us, h, r => by
    unfold rDs at h
    obtain ⟨v, ws, rfl, h1, h2⟩ := h
    cases r with
    | cons r1 r2 => exact .cons ⟨v, h1, r1⟩ (each_of h2 r2)
theorem each_to {K : PySem.W.Frag} {H : Hp} : ∀ {us : List Value} {ds : List D}, EachIs (fun u d => ∃ v, rD K d v H ∧ RelV v u) us ds → ∃ vs, rDs K ds vs H ∧ Vals vs us
  | _, _, .nil => ⟨[], by unfold rDs; rfl, .nil⟩
  | _, _, .cons ⟨v, h1, r1⟩ t => by
    obtain ⟨vs, h2, r2⟩ := each_to t
    exact ⟨v :: vs, by unfold rDs; exact ⟨v, vs, rfl, h1, h2⟩, .cons r1 r2⟩
theorem each_reads {X : Cx} {pins : List (Addr × Obj)} {σ : L2.St} {H : Hp} {s : Shared} (I : Inv X pins σ H s) : ∀ {us : List Value} {ds : List D}, oks ds = true → EachIs (fun u d => ∃ v, rD X.K d v H ∧ RelV v u) us ds → EachIs (fun u d => ∃ as, Reads s.heap u d.p as) us ds
  | _, _, _, .nil => .nil
  | _, _, k, .cons ⟨v, h1, r1⟩ t => by
    unfold oks at k
    rw [Bool.and_eq_true] at k
    exact .cons (rD.reads I k.1 h1 r1) (each_reads I k.2 t)
def rSrtD (K : PySem.W.Frag) : List V → Hp → VK → Prop := fun xs H Q => ∃ (a : Addr) (ds : List D) (vs : List V), xs = [V.ref a] ∧ (SqL K H a vs ∨ SqT K H a vs) ∧ rDs K ds vs H ∧ oks ds = true ∧ AllAlike (ds.map D.p) ∧ Sortable (ds.map D.p) ∧ (∀ d ∈ ds, d.p.depth ≤ 20) ∧
  ∀ (p : Addr) (ws : List V), H p = none → rDs K (ds.mergeSort (dataLe false D.p)) ws H → Q (.ref p) (upd H p (.lst ws))
theorem cr_srtD {X : Cx} (hu : X.A.units + 64 < cLine) : CallR X (.builtin "sorted") (rSrtD X.K) := by
  intro pins s σ H xs us Q I r h
  obtain ⟨a, ds, vs, rfl, hs, rd, ok, al, so, dp, q⟩ := h
  have go : ∀ {its : List Value}, Vals vs its → vs.length ≤ sizeLine → (s.heap.IsList a its.toArray ∨ s.heap.IsTuple a its.toArray) → wpAny (model X.prog X.w) X.A (call (.builtin "sorted") [.ref a]) (L2.EP X pins σ Q) X.xe s := by
    intro its rv hz hl
    have e := each_of rd rv
    have er := each_reads I ok e
    have hL : ds.length ≤ sizeLine := by rw [← e.length, ← rv.length]; exact hz
    have hub : ∀ b, b ∈ ds → X.A.units + 2 + b.p.depth < cLine := fun b hb => by have := dp b hb; omega
    have fin : ∀ out : List Value, out.length = ds.length → EachIs (fun u d => ∃ v, rD X.K d v H ∧ RelV v u) out (ds.mergeSort (dataLe false D.p)) → L2.EP X pins σ Q (.ref (s.heap.objs.size + 1)) { s with heap := sortedAll s.heap its (List.toArray out) } := by
      intro out hlen ho
      obtain ⟨ws, h1, h2⟩ := each_to ho
      obtain ⟨ep, he'⟩ := PyProof.Rows.sortedAll_at s.heap its out.toArray
      have z := q _ ws (I.hok.fresh (Nat.le_succ s.heap.objs.size)) h1
      have J := I.laid (t' := s.toks) (fun _ _ => PyProof.Rows.sortedAll_old) (Nat.le_succ _) (o := .lst ws) ⟨by rw [h2.length, hlen]; exact hL, out, ep, h2, he'⟩
      exact ⟨.ref _, _, J, rfl, z⟩
    rcases hl with hl | hl
    · exact sorted_data hl e er al so hL hub fin
    · exact sorted_tup_data hl e er al so hL hub fin
  rcases hs with hs | hs
  · obtain ⟨its, rv, hl, hz⟩ := I.list hs
    rw [Vals.ref1 r]
    exact go rv hz (.inl hl.isList)
  · obtain ⟨its, rv, hl, hz⟩ := I.tuple hs
    rw [Vals.ref1 r]
    obtain ⟨ob, o1, o2, n, o3⟩ := hl
    exact go rv hz (.inr ⟨ob, o1, o2, n, o3⟩)
/-! ### by type -/
def srtE {α : Type} (f : α → D) (xs : List α) : List α := xs.mergeSort (dataLe false fun x => (f x).p)
/-- any two of a kind are alike -/
def AlT {α : Type} (f : α → D) : Prop := ∀ x y, alike (f x).p (f y).p = true
section
variable {α β γ δ : Type} {f : α → D} {g : β → D} {e : γ → D} {f4 : δ → D}
theorem al_int : AlT D.int := fun x y => by unfold D.p alike; rfl
theorem al_all (h : AlT f) : ∀ xs ys : List α, alikeAll (ps (xs.map f)) (ps (ys.map f)) = true
  | [], ys => by unfold ps alikeAll; rfl
  | x :: xs, [] => by
    show alikeAll (ps (f x :: xs.map f)) (ps []) = true
    unfold ps alikeAll; rfl
  | x :: xs, y :: ys => by
    show alikeAll (ps (f x :: xs.map f)) (ps (f y :: ys.map f)) = true
    unfold ps
    unfold alikeAll
    rw [h x y, al_all h xs ys] <;> rfl
theorem al_tl (h : AlT f) : AlT (eTL f) := fun xs ys => by
  show alike (D.tup (xs.map f)).p (D.tup (ys.map f)).p = true
  unfold D.p alike
  exact al_all h xs ys
/-- may be sorted: tuples with an item each, or no tuples -/
def SoT (f : α → D) (xs : List α) : Prop := Sortable (xs.map fun x => (f x).p)
theorem so_tl {xs : List (List α)} (h : (xs.all fun x => !x.isEmpty) = true) : SoT (eTL f) xs := .inl fun d hd => by
  obtain ⟨x, hx, rfl⟩ := List.mem_map.mp hd
  have := List.all_eq_true.mp h x hx
  cases x with
  | nil => cases this
  | cons a l => exact ⟨(f a).p, ps (l.map f), by show (D.tup (f a :: l.map f)).p = _; simp only [D.p, ps]⟩
theorem merge_map {α β : Type} (f : α → β) (le : β → β → Bool) (xs : List α) : (xs.map f).mergeSort le = (xs.mergeSort fun x y => le (f x) (f y)).map f := (List.map_mergeSort (f := f) (r := fun x y => le (f x) (f y)) (s := le) fun _ _ _ _ => rfl).symm
end
section
variable {X : Cx} {C : Cn} {Γ Γ1 : Ctx} {Ts : List T} {e : Expr} {pos nmp : Pos} {t : T} {α : Type} {f : α → D} {xs : List α} {k : Nat}
theorem ee_sortedE [DecidableEq α] (hu : X.A.units + 64 < cLine) (hm : X.mg "sorted" = none) (E : EqT f k) (hk : k ≤ 20) (al : AlT f) (so : SoT f xs) (h : EE X C Γ Ts e Γ1 t) (s : SrcQ Γ1 t (xs.map f)) (hg : Gl X "sorted" := by rfl) (hK : X.K = C.K := by rfl) (he : starEach [e] X.env = (false, eval e X.env) :: starEach [] X.env := by rfl) (hpl : (backTo pos (starEach [] X.env)).any (·.1) = false := by rfl) : EE X C Γ Ts (.Call (.Name "sorted" nmp) [e] [] pos) Γ1 (.own (.li ((srtE f xs).map f))) :=
  cb_wk (ts := [t]) (fun σ vs us H hl h Q q => by
    obtain ⟨u, rfl⟩ : ∃ u, us = [u] := List.length_eq_one_iff.mp hl
    obtain ⟨a, ws, e1, hw, rd⟩ := h.srcQ s
    subst e1
    refine ⟨a, xs.map f, ws, rfl, by rw [hK]; exact hw, by rw [hK]; exact rd, oks_map _ fun x _ => E.ok x, ?_, ?_, fun d hd => ?_, fun p ys hp rd2 => q _ _ (h.pop.push (Ext.new hp) (t := .own (.li ((srtE f xs).map f))) (F := fun x => x = p) ?_ (fun x e => by rw [e]; exact hp) fun x e => by rw [e, upd_same]; trivial)⟩
    · rw [List.map_map]
      exact PySem.W.AllAlike.of (enc := fun x => (f x).p) al
    · rw [List.map_map]
      exact so
    · obtain ⟨x, _, rfl⟩ := List.mem_map.mp hd
      have := E.dp x
      omega
    · rw [merge_map] at rd2
      rw [hK] at rd2
      show rM _ _ _ _ _
      unfold rM
      exact ⟨p, ys, rfl, upd_same, rd2.tf (Ext.new hp).tf, fun _ => Iff.rfl⟩) (pe_callB (cr_srtD hu) hg hm (by decide +kernel) (ea_cons h ea_nil he) (by decide) (by decide) he hpl)
end
end RL

set_option maxHeartbeats 4000000
/-! RL74: places that are computed, as targets -/
namespace RL
open PySem L2 PySem.Spec PyProof.Rows
section
variable {X : Cx} {C : Cn} {Γ : Ctx} {a b : Expr} {pos : Pos} {ds : List D} {d : D} {n m : Int} {α : Type} {enc : α → D} {xs : List α} {x : α}
end
end RL

set_option maxHeartbeats 4000000
/-! RL75: a text as a list of its signs -/
namespace RL
open PySem L2 PySem.Spec PyProof.Rows
/-! a list made longer by a locked one, or by a tuple -/
open PySem.AutoSeq1 in
theorem list_extend_any {T : String} (hT : T = "list" ∨ T = "tuple") (l : Addr) (items : Array Value) (n : Nat) (b : Addr) (items2 : Array Value) (n2 : Nat) (dd : Option Addr) (sl : Array (Option Value)) (hc0 : ¬(!items.isEmpty && Builtin.List.listTooLong (items.size + items2.size)) = true) (hc1 : items.size ≤ sizeLine) (hs2 : items.size + items2.size ≤ sizeLine + 1) :
    Meets (Builtin.«list.extend» ⟨[.ref l, .ref b], []⟩) (fun _ R s => s.heap.get? l = some { cls := .type "list", dict := none, data := .seq items n, slots := #[] } ∧ s.heap.get? b = some { cls := .type T, dict := dd, data := .seq items2 n2, slots := sl } ∧ R (.ok (.ret Value.none)) { s with heap := s.heap.update l (Obj.mapSeq fun x => x ++ items2), toks := s.toks }) := by
  rcases hT with rfl | rfl
  all_goals
    refine .of_wp fun prog w A R s h => ?_
    obtain ⟨hp, g, d, tk, os⟩ := s; obtain ⟨hl, hb, h⟩ := h; have f1 := PySem.AutoSeq1.idx_int; have f2 := PySem.AutoSeq1.sub_tuple_tuple; have f3 := PySem.AutoSeq1.sub_list_list; have f4 := PySem.AutoSeq1.sub_tuple_list; have f5 := PySem.AutoSeq1.sub_list_tuple;
    have hz' : (items ++ items2).size ≤ sizeLine + 1 := by rw [Array.size_append]; exact hs2
    wp_walk using (wpAny_updateSeq hl rfl (hz := hc1) (_hz' := hz')), wpAny_loadPart' hl, wpAny_loadPart' hb; exact ⟨_, rfl, h⟩
def rExtendQ (K : PySem.W.Frag) : V → List V → Hp → VK → Prop := fun x vs H Q => ∃ l b xs zs, x = .ref l ∧ vs = [.ref b] ∧ H l = some (.lst xs) ∧ (SqL K H b zs ∨ SqT K H b zs) ∧ xs.length + zs.length ≤ sizeLine ∧ Q .non (upd H l (.lst (xs ++ zs)))
theorem mt_extendQ {X : Cx} : MtM X "list.extend" (rExtendQ X.K) := by
  intro pins s σ H x vs v us Q I rx rv h
  obtain ⟨l, b, xs, zs, rfl, rfl, hH, hB, hz, q⟩ := h
  cases rx
  obtain ⟨u, rfl, ru⟩ := rv.one
  cases ru
  obtain ⟨z, its, n, r, hl, e⟩ := I.lstM hH
  have go : ∀ {its2 : List Value} {T : String} (_ : T = "list" ∨ T = "tuple") {o : Obj} {n2 : Nat}, Vals zs its2 → s.heap.get? b = some o → o.cls = .type T → o.data = .seq its2.toArray n2 → wpAny (model X.prog X.w) X.A (call (.builtin "list.extend") [.ref l, .ref b]) (L2.EP X pins σ Q) X.xe s := by
    intro its2 T hT o n2 r2 ho hc hd
    have hl2 := r2.length
    have hsz : its.toArray.size + its2.toArray.size ≤ sizeLine := by rw [List.size_toArray, List.size_toArray]; omega
    have hlong : ¬ (!its.toArray.isEmpty && Builtin.List.listTooLong (its.toArray.size + its2.toArray.size)) = true := by
      rw [notLongL hsz, Bool.and_false]
      exact Bool.false_ne_true
    have e2 : s.heap.get? b = some { cls := .type T, dict := o.dict, data := .seq its2.toArray n2, slots := o.slots } := by
      rw [ho, ← hc, ← hd]
    refine call_meets F.slot_list_extend ⟨_, e, rfl⟩ F.entry_list_extend (F.args_list_extend_2 _ _)
      (list_extend_any hT l its.toArray n b its2.toArray n2 o.dict o.slots hlong (by rw [List.size_toArray]; omega) (by omega)) ⟨e, e2, ?_⟩
    refine ⟨.non, _, I.lset (its' := its ++ its2) hH e (by simp) (r.append r2) ?_, rfl, q⟩
    rw [List.length_append]
    omega
  rcases hB with hB | hB
  · obtain ⟨its2, r2, ⟨o, n2, ho, hc, _, hd⟩, _⟩ := I.list hB
    exact go (.inl rfl) r2 ho hc hd
  · obtain ⟨its2, r2, ⟨o, ho, hc, n2, hd⟩, _⟩ := I.tuple hB
    exact go (.inr rfl) r2 ho hc hd
section
variable {X : Cx} {C : Cn} {Γ Γ1 : Ctx} {Ts : List T} {e nme : Expr} {t : T} {apos cpos : Pos} {α : Type} {enc : α → D} {xs ys : List α} {ds' : List D}
theorem ee_extendQ (j : Nat) (hn : PE X nme (tVar j)) (hj : Γ[j]? = some (some (.li ds'))) (h1 : EE X C Γ (Ts ++ [.al j]) e Γ1 t) (hj1 : Γ1[j]? = some (some (.li (xs.map enc)))) (s : SrcQ Γ1 t (ys.map enc)) (hl : xs.length + ys.length ≤ sizeLine) (hK : X.K = C.K := by rfl)
    (hbase : attributeBase nme "extend" X.env (eval nme X.env) = eval nme X.env := by rfl)
    (hfew : ((backTo cpos (starEach [e] X.env)).all (fun x => !x.1) && (backToKw cpos (keywordEach [] X.env)).all (fun x => x.1.isSome)
      && decide ([e].length + ([] : List Keyword).length + (if ([] : List Keyword).isEmpty then 0 else 1) < 30)) = true := by rfl)
    (hline : (apos.endLine == cpos.line) = true := by rfl) (hs : starEach [e] X.env = (false, eval e X.env) :: starEach [] X.env := by rfl) (hplain : (backTo cpos (starEach [] X.env)).any (·.1) = false := by rfl) :
    EE X C Γ Ts (.Call (.Attribute nme "extend" apos) [e] [] cpos) (Γ1.set j (some (.li ((xs ++ ys).map enc)))) (.im .non) := by
  rw [List.map_append]
  refine (pe_bm PySem.F.plainAttrs_list PySem.F.slot_list_extend PySem.F.type_list_extend mt_extendQ (ee_al (C := C) (Γ := Γ) (Ts := Ts) j hn hj) (ea_cons h1 ea_nil hs) hbase hfew hline hs hplain).wk fun σ H Q ⟨vs, h, q⟩ => ⟨vs, h, fun v H1 h1 => ?_⟩
  obtain ⟨a0, us0, e0, hl0, _⟩ := h1.srcS (.al hj)
  subst e0
  refine ⟨tyV_lst hl0, vs ++ [.ref a0], h1, fun us H2 hlen h2 => ?_⟩
  obtain ⟨u, rfl⟩ : ∃ u, us = [u] := List.length_eq_one_iff.mp hlen
  obtain ⟨a3, us3, e3, hl3, rd3⟩ := h2.srcQ s
  subst e3
  have h3 := h2.pop
  obtain ⟨a1, us1, e1, hl1, rd1⟩ := h3.srcS (.al hj1)
  cases e1
  obtain ⟨a2, us2, hσ, hl2, rd2, put⟩ := h3.pop.lset hj1
  have ea : a2 = a0 := by
    obtain ⟨F, ⟨g, _⟩, _⟩ := h3.top
    rw [hσ] at g
    injection g with g; injection g with g; injection g
  subst ea
  rw [hl1] at hl2
  cases hl2
  have k1 := rd1.len
  have k3 := rd3.len
  rw [List.length_map] at k1 k3
  exact ⟨a2, a3, us1, us3, rfl, rfl, hl1, by rw [hK]; exact hl3, by rw [k1, k3]; exact hl, q _ _ ((put _ _ (rd1.app rd3)).pushIm Ext.refl (by unfold rD; rfl))⟩
end
section
variable {X : Cx} {C : Cn} {Γ Γ1 : Ctx} {Ts : List T} {e : Expr} {z : Str} {pos nmp : Pos}
end
end RL

set_option maxHeartbeats 4000000
/-! RL76: dicts of texts that the module keeps -/
namespace RL
open PySem L2 PySem.Spec PyProof.Rows
abbrev TabW : Type := List (Option (List (Option (Str × Int))))
def tabsW (ts : List (Str × List (Str × Str))) (K : PySem.W.Frag) : TabW := ts.map fun t => He.dicW K (He.ga K t.1)
def tabsV (ts : List (Str × List (Str × Str))) (w : World) : TabW := ts.map fun t => some (He.keysIn w.params (t.2.map fun q => q.1))
abbrev AlST : Type := AlS × TabW
def obsST (z : PySem.W.Frag → Bool) (iz : List (Str × InitD)) (ts : List (Str × List (Str × Str))) (fa : List He.Fa) (fn : List He.DefD) (K : PySem.W.Frag) : AlST := (obsSI z iz fa fn K, tabsW ts K)
def valST (iz : List (Str × InitD)) (ts : List (Str × List (Str × Str))) (fn : List He.DefD) (w : World) : AlST := (valSI iz fn, tabsV ts w)
def SaysST (z : PySem.W.Frag → Bool) (iz : List (Str × InitD)) (ts : List (Str × List (Str × Str))) (fa : List He.Fa) (fn : List He.DefD) (w : World) (K : PySem.W.Frag) : Prop := obsST z iz ts fa fn K = valST iz ts fn w
section
variable {z : PySem.W.Frag → Bool} {iz : List (Str × InitD)} {ts : List (Str × List (Str × Str))} {fa : List He.Fa} {fn : List He.DefD} {w : World} {K : PySem.W.Frag}
theorem SaysST.s (c : SaysST z iz ts fa fn w K) : SaysSI z iz fa fn K := congrArg (fun q : AlST => q.1) c
end
section
variable {X : Cx} {C : Cn} {Γ Γ1 : Ctx} {Ts : List T} {e : Expr} {x z v : Str} {pos p : Pos} {kvs : List (Str × Str)}
end
end RL

set_option maxHeartbeats 4000000
/-! RL77: defs that raise or fall off their end -/
namespace RL
open PySem L2 PySem.Spec PyProof.Rows
end RL

set_option maxHeartbeats 4000000
/-! RL78: signs of texts by place -/
namespace RL
open PySem L2 PySem.Spec PyProof.Rows
section
variable {X : Cx} {C : Cn} {Γ Γ1 Γ2 : Ctx} {Ts : List T} {a b : Expr} {z x : Str} {n : Int} {pos : Pos}
end
end RL

set_option maxHeartbeats 4000000
/-! RL79: try with several clauses, with names or without -/
namespace RL
open PySem L2 PySem.Spec PyProof.Rows
/-- one clause: its class, the slot of its name, what its suite comes to -/
structure Cl where
  c : Value
  j : Option Nat
  ts : Addr → Value → Option Addr → TS
/-- how the suite ends, its name gone -/
def Cl.ends (k : Cl) (D : Ends) : Ends := match k.j with
  | none => D
  | some i => { nx := fun σ' H' => D.nx (σ'.set i none) H', rt := D.rt, bk := fun σ' H' => D.bk (σ'.set i none) H', ct := fun σ' H' => D.ct (σ'.set i none) H' }
def Cl.sig (k : Cl) (σ : L2.St) (a : Addr) : L2.St := match k.j with
  | none => σ
  | some i => σ.set i (some (.ref a))
inductive ClsOk (X : Cx) : List ExceptHandler → List Cl → Prop
  | nil : ClsOk X [] []
  | only {x : Str} {c : Value} {ts : Addr → Value → Option Addr → TS} {b₀ : Stmt} {suite : List Stmt} {np pos' : Pos} {hds : List ExceptHandler} {l : List Cl} (hc : Names X x c)
      (hsu : ∀ (a : Addr) (oe : Obj) (cls : Value) (d : Option Addr) (pn : List (Addr × Obj)), Zc cls d oe → (∃ vs, oe.data = .fields vs) → PSs (X.suite a ((a, oe) :: pn)) (b₀ :: suite) (ts a cls d)) (r : ClsOk X hds l) :
      ClsOk X (.ExceptHandler (some (.Name x np)) none (b₀ :: suite) pos' :: hds) (⟨c, none, ts⟩ :: l)
  | named {x n : Str} {i : Nat} {c : Value} {ts : Addr → Value → Option Addr → TS} {b₀ : Stmt} {suite : List Stmt} {np pos' : Pos} {hds : List ExceptHandler} {l : List Cl} (hi : X.N[i]? = some n) (hln : X.env.kindOf n = some .local) (hc : Names X x c)
      (hsu : ∀ (a : Addr) (oe : Obj) (cls : Value) (d : Option Addr) (pn : List (Addr × Obj)), Zc cls d oe → (∃ vs, oe.data = .fields vs) → PSs (X.suite a ((a, oe) :: pn)) (b₀ :: suite) (ts a cls d)) (r : ClsOk X hds l) :
      ClsOk X (.ExceptHandler (some (.Name x np)) (some n) (b₀ :: suite) pos' :: hds) (⟨c, some i, ts⟩ :: l)
section
variable {X : Cx} {body : List Stmt} {h₀ : ExceptHandler} {hds : List ExceptHandler} {l : List Cl} {pos : Pos} {tb : WX → TS} {Wout : WX}
end
/-! ### blocks that end with a value -/
inductive RestH (X : Cx) : List ExceptHandler → Prop
  | nil : RestH X []
  | only {x : Str} {c : Value} {b₀ : Stmt} {suite : List Stmt} {np pos' : Pos} {hds : List ExceptHandler} (hc : Names X x c) (r : RestH X hds) : RestH X (.ExceptHandler (some (.Name x np)) none (b₀ :: suite) pos' :: hds)
  | named {x n : Str} {i : Nat} {c : Value} {b₀ : Stmt} {suite : List Stmt} {np pos' : Pos} {hds : List ExceptHandler} (hi : X.N[i]? = some n) (hln : X.env.kindOf n = some .local) (hc : Names X x c) (r : RestH X hds) : RestH X (.ExceptHandler (some (.Name x np)) (some n) (b₀ :: suite) pos' :: hds)
theorem RestH.cls {X : Cx} : ∀ {hds : List ExceptHandler}, RestH X hds → ∃ l, ClsOk X hds l
  | _, .nil => ⟨[], .nil⟩
  | _, .only hc r => by
    obtain ⟨l, h⟩ := r.cls
    exact ⟨_, .only (ts := fun _ _ _ => tNever) hc (fun _ _ _ _ _ _ _ => pss_never) h⟩
  | _, .named hi hln hc r => by
    obtain ⟨l, h⟩ := r.cls
    exact ⟨_, .named (ts := fun _ _ _ => tNever) hi hln hc (fun _ _ _ _ _ _ _ => pss_never) h⟩
section
variable {X : Cx} {C : Cn} {Hs : List T} {Γ Γx Γ' : Ctx} {i : Nat} {n x f : Str} {c : Value} {np pos pos' : Pos} {body suite : List Stmt} {b₀ : Stmt} {h₀ : ExceptHandler} {hds : List ExceptHandler} {e : Exn} {m : M} {D : Addr} {dv : RL.D} {R : Type} {p : Except Exn R} {g : R → M}
end
end RL

set_option maxHeartbeats 4000000
/-! RL80: any datum read as what may be None -/
namespace RL
open PySem L2 PySem.Spec PyProof.Rows
section
variable {α : Type} {g : D → Option α} {f : α → D}
end
end RL

set_option maxHeartbeats 2000000
/-! RL81: a dict of a list and two numbers, by names: what other families of laws draw from -/
namespace RL
open PySem L2
/-- three names, apart -/
structure Nm where
  a : Str
  b : Str
  c : Str
  ab : ¬ (Sum.inr a : Key) = Sum.inr b
  ac : ¬ (Sum.inr a : Key) = Sum.inr c
  bc : ¬ (Sum.inr b : Key) = Sum.inr c
abbrev nmPot : Nm := ⟨"far", "stirred", "turn", by intro e; injection e with e; revert e; decide, by intro e; injection e with e; revert e; decide, by intro e; injection e with e; revert e; decide⟩
structure Pot where
  far : List Int
  mix : Int
  turn : Int
abbrev Pot.l (n : Nm) (d : Pot) : List (Key × M) := [(.inr n.a, .li (d.far.map D.int)), (.inr n.b, .im (.int d.mix)), (.inr n.c, .im (.int d.turn))]
abbrev Pot.m (n : Nm) (d : Pot) : M := .dk (Pot.l n d)
variable {n : Nm} {d : Pot}
theorem Pot.far_sub : (Pot.m n d).sub (.k (.inr n.a)) = some (.li (d.far.map .int)) := by show getM _ _ = _; unfold getM; rw [if_pos rfl]
theorem Pot.mix_sub : (Pot.m n d).sub (.k (.inr n.b)) = some (.im (.int d.mix)) := by show getM _ _ = _; unfold getM; rw [if_neg n.ab]; unfold getM; rw [if_pos rfl]
theorem Pot.turn_sub : (Pot.m n d).sub (.k (.inr n.c)) = some (.im (.int d.turn)) := by show getM _ _ = _; unfold getM; rw [if_neg n.ac]; unfold getM; rw [if_neg n.bc]; unfold getM; rw [if_pos rfl]
theorem Pot.far_chg {l : List Int} : (Pot.m n d).chg (.k (.inr n.a)) (.li (l.map .int)) = Pot.m n ⟨l, d.mix, d.turn⟩ := by show M.dk (updM _ _ _) = _; unfold updM; rw [if_pos rfl]
theorem Pot.turn_put {t : Int} : M.dk (putM (Pot.l n d) (.inr n.c) (.im (.int t))) = Pot.m n ⟨d.far, d.mix, t⟩ := by
  have e : getM (Pot.l n d) (.inr n.c) = some (.im (.int d.turn)) := Pot.turn_sub (n := n) (d := d)
  unfold putM
  rw [e]
  show M.dk (List.map _ _) = _
  unfold Pot.l
  simp only [List.map_cons, List.map_nil]
  rw [if_neg n.ac, if_neg n.bc, if_pos trivial]
section
variable {X : Cx} {C : Cn} {Γ Γ1 Γ2 : Ctx} {Ts Hs : List T} {nm e b : Expr} {pos p apos cpos : Pos} {j : Nat} {x i : Int} {k0 : Nat} {q : Pos} {s : Sp1} {r : R2} {m : M} {ds : List D} {c : Expr} {dd : D}
theorem ee_pMix (n : Nm) (hu : X.A.units + 64 < cLine) (j : Nat) (hn : PE X nm (tVar j)) (hj : Γ[j]? = some (some (Pot.m n d)) := by rfl) : EE X C Γ Ts (.Subscript nm (.Constant (.str n.b) k0 q) pos) Γ (.im (.int d.mix)) := ee_at j (sub_k hu) hn hj (ee_str (C := C)) Pot.mix_sub
theorem ee_pTurn (n : Nm) (hu : X.A.units + 64 < cLine) (j : Nat) (hn : PE X nm (tVar j)) (hj : Γ[j]? = some (some (Pot.m n d)) := by rfl) : EE X C Γ Ts (.Subscript nm (.Constant (.str n.c) k0 q) pos) Γ (.im (.int d.turn)) := ee_at j (sub_k hu) hn hj (ee_str (C := C)) Pot.turn_sub
theorem s_putTurnP (n : Nm) (hu : X.A.units + 64 < cLine) (j : Nat) (hn : PE X nm (tVar j)) (he : EE X C Γ Hs e Γ1 (.im (.int x))) (hj : Γ1[j]? = some (some (Pot.m n d))) {k1 : Nat} {p1 p' : Pos} (hb : EE X C Γ1 (Hs ++ [.im (.int x)] ++ [.al j]) (.Constant (.str n.c) k1 p1) Γ1 (.im (.str n.c)))
    (hs : swapsWith e (some (.Subscript nm (.Constant (.str n.c) k1 p1) p')) pos.line X.env = pure false := by rfl) : S1 X C Hs Γ (.Assign [.Subscript nm (.Constant (.str n.c) k1 p1) p'] e pos) (.nx (Γ1.set j (some (Pot.m n ⟨d.far, d.mix, x⟩)))) := by
  have z := s_putD (x := .inr n.c) (p' := p') (pos := pos) hu j hn he hj hb (show 3 < sizeLine by decide) hs
  rw [Pot.turn_put] at z
  exact z
/-- x[k][i], x[k] being a list -/
theorem ee_ixZ (j : Nat) (S : SubR X s r) (hn : PE X nm (tVar j)) (hj : Γ[j]? = some (some m)) (hb : EE X C Γ (Ts ++ [.al j]) b Γ (.im s.d)) (e1 : m.sub s = some (.li ds)) (hc : EQ X C Γ c (.int i)) (hd : atI ds i = some dd) (hs : PlainIx b := by exact fun _ _ => rfl) (hs2 : PlainIx c := by exact fun _ _ => rfl) (hK : X.K = C.K := by rfl) :
    EE X C Γ Ts (.Subscript (.Subscript nm b p) c pos) Γ (.im dd) := by
  obtain ⟨te, pe, hte⟩ := hc
  refine (pe_ix ix_list (S.1 (ee_al (C := C) (Γ := Γ) (Ts := Ts) j hn hj) hb hs) pe hs2).wk fun σ H Q ⟨vs, h, q⟩ => ⟨vs, h, fun v H1 h1 => ⟨vs ++ [v], h1, fun y H2 h2 => ?_⟩⟩
  have ey := Sp1.rd h2.topIm
  subst ey
  obtain ⟨F, ⟨hσ, _⟩, _⟩ := h2.pop.top
  obtain ⟨v', a, us, hv, hz, hl, rd, put⟩ := h2.pop.pop.zset hj e1
  rw [hσ] at hv
  cases hv
  refine S.2 H2 v (.ref a) _ hz (hte σ H2 Ts vs _ h2.pop.pop fun u ru => ?_)
  unfold rD at ru
  obtain ⟨w, hw, rw_⟩ := rd.at hd
  exact ⟨a, us, i, w, rfl, ru, by rw [hK]; exact SqL.of hl, hw, q _ _ (h2.pop.pop.pushIm Ext.refl rw_)⟩
end
end RL

set_option maxHeartbeats 2000000
/-! RL82: drawing from a pot, in plain Lean -/
namespace RL
open PySem L2
def potC (d : Pot) : Bool := match d.far.getLast? with
  | some c => decide (c = 0)
  | none => false
def potF (d : Pot) : Option Pot := some ⟨d.far.dropLast, d.mix, d.turn⟩
def drawP_m (pot : Pot) (many : Int) : Option (Int × Pot) :=
  (whS potC potF 1000 pot).bind fun pot => (gd (decide (0 < many))).bind fun _ =>
  if (!pot.far.isEmpty) = true then
    pot.far.getLast?.bind fun whole => (gd (decide (CDivW whole many))).bind fun _ => (gd (decide (pot.far.dropLast.length < sizeLine))).bind fun _ => some (whole % many, ⟨pot.far.dropLast ++ [whole / many], pot.mix, pot.turn⟩)
  else
    let t := pot.turn + 1
    let one := (pot.mix + t * 39373) % 2147483587
    let two := (one * one + t * 48271 + 19) % 2147483629
    some ((two * 16807 + pot.mix) % 2147483563 / 256 % many, ⟨pot.far, pot.mix, t⟩)
abbrev drawPR : List M → M → List M → Prop := fun ms r ms' => ∃ (pot : Pot) (many : Int) (out : Int × Pot), drawP_m pot many = some out ∧ ms = [Pot.m nmPot pot, .im (.int many)] ∧ r = .im (.int out.1) ∧ ms' = [Pot.m nmPot out.2]
def pickP_m {α : Type} (pot : Pot) (items : List α) : Option (α × Pot) := (drawP_m pot items.length).bind fun p => (atI items p.1).bind fun x => some (x, p.2)
theorem pickP_map {α : Type} (f : α → D) {pot : Pot} {items : List α} {p : α × Pot} (h : pickP_m pot items = some p) : pickP_m pot (items.map f) = some (f p.1, p.2) := by
  unfold pickP_m at h ⊢
  obtain ⟨q, h1, h⟩ := bsplit h
  obtain ⟨x, h2, h⟩ := bsplit h
  cases h
  rw [List.length_map, h1]
  show (atI (items.map f) q.1).bind _ = _
  rw [atI_map h2]
  rfl
abbrev pickPR : List M → M → List M → Prop := fun ms r ms' => ∃ (pot : Pot) (items : List D) (out : D × Pot), pickP_m pot items = some out ∧ (ms = [Pot.m nmPot pot, .im (.lst items)] ∨ ms = [Pot.m nmPot pot, .im (.tup items)]) ∧ r = .im out.1 ∧ ms' = [Pot.m nmPot out.2]
/-! ### it is total -/
def Pot.ok (d : Pot) : Prop := d.far.length ≤ 63
theorem potC_tot {d : Pot} (h : d.ok) : W (whS potC potF 1000 d) Pot.ok := by
  refine (W.wh (fun d => d.ok) (fun d => d.far.length) h (by unfold Pot.ok at h; omega) fun d hd hc => ?_).m fun b h => h.1
  unfold potC at hc
  unfold Pot.ok at hd
  refine W.s ⟨by show d.far.dropLast.length ≤ 63; simp; omega, ?_⟩
  show d.far.dropLast.length < d.far.length
  cases q : d.far with
  | nil => rw [q] at hc; cases hc
  | cons a l => simp
theorem drawP_tot {d : Pot} {n : Int} (h : d.ok) (h1 : 1 ≤ n) (hn : n < 2 ^ 60) : W (drawP_m d n) fun p => p.2.ok ∧ 0 ≤ p.1 ∧ p.1 < n := by
  have hm : ∀ a : Int, 0 ≤ a % n ∧ a % n < n := fun a => ⟨Int.emod_nonneg a (by omega), Int.emod_lt_of_pos a (by omega)⟩
  unfold drawP_m
  refine (potC_tot h).b fun d hd => W.g (by omega) (W.i (fun hg => ?_) fun hg => W.s ⟨hd, hm _⟩)
  unfold Pot.ok at hd
  obtain ⟨c, hc⟩ : ∃ c, d.far.getLast? = some c := by
    cases q : d.far with
    | nil => rw [q] at hg; cases hg
    | cons a l => exact ⟨_, List.getLast?_eq_some_getLast (by simp)⟩
  have hl : d.far.dropLast.length ≤ 62 := by simp; omega
  refine W.e hc (W.g (wide_div (b := 60) (by omega) (by omega) (by omega) (by omega)) (W.g (bigl (by omega)) (W.s ⟨?_, hm _⟩)))
  show (d.far.dropLast ++ [c / n]).length ≤ 63
  simp at hl ⊢
  omega
theorem pickP_tot {α : Type} {d : Pot} {xs : List α} (h : d.ok) (hx : 1 ≤ xs.length) (hl : xs.length < 2 ^ 60) : W (pickP_m d xs) fun p => p.2.ok ∧ p.1 ∈ xs := by
  unfold pickP_m
  refine (drawP_tot h (by omega) (by omega)).b fun p hp => ?_
  exact (atI_W hp.2.1 hp.2.2).b fun x hx => W.s ⟨hp.1, hx.1⟩
/-! ### in another order -/
def mixP_f {α : Type} (s : Pot × List α) (x : α) : Option (Pot × List α) :=
  (drawP_m s.1 ((s.2.length : Int) + 1)).bind fun p => (gd (decide ((cutL s.2 none (some p.1)).length + [x].length ≤ sizeLine))).bind fun _ => (gd (decide ((cutL s.2 none (some p.1) ++ [x]).length + (cutL s.2 (some p.1) none).length ≤ sizeLine))).bind fun _ =>
    some (p.2, cutL s.2 none (some p.1) ++ [x] ++ cutL s.2 (some p.1) none)
def mixP_m {α : Type} (pot : Pot) (items : List α) : Option (List α × Pot) := (forS mixP_f (pot, ([] : List α)) items).bind fun p => some (p.2, p.1)
theorem mixP_go {α : Type} (f : α → D) : ∀ {items : List α} {s p : Pot × List α}, forS mixP_f s items = some p → forS mixP_f (s.1, s.2.map f) (items.map f) = some (p.1, p.2.map f)
  | [], s, p, h => by cases h; rfl
  | x :: xs, s, p, h => by
    unfold forS at h
    obtain ⟨s1, h1, h⟩ := bsplit h
    rw [List.map_cons]
    unfold forS
    have e : mixP_f (s.1, s.2.map f) (f x) = some (s1.1, s1.2.map f) := by
      unfold mixP_f at h1 ⊢
      obtain ⟨q, hq, h1⟩ := bsplit h1
      obtain ⟨_, g1, h1⟩ := bsplit h1
      obtain ⟨_, g2, h1⟩ := bsplit h1
      cases h1
      simp only [List.length_map, cutL_map, List.length_append, List.length_cons, List.length_nil] at g1 g2 ⊢
      rw [hq]
      simp only [Option.bind_some]
      rw [g1]
      simp only [Option.bind_some]
      rw [g2]
      simp
    rw [e]
    exact mixP_go f h
theorem mixP_map {α : Type} (f : α → D) {pot : Pot} {items : List α} {p : List α × Pot} (h : mixP_m pot items = some p) : mixP_m pot (items.map f) = some (p.1.map f, p.2) := by
  unfold mixP_m at h ⊢
  obtain ⟨q, hq, h⟩ := bsplit h
  cases h
  have z := mixP_go f hq
  simp only [List.map_nil] at z
  rw [z]
  rfl
abbrev mixPR : List M → M → List M → Prop := fun ms r ms' => ∃ (pot : Pot) (items : List D) (out : List D × Pot), mixP_m pot items = some out ∧ (ms = [Pot.m nmPot pot, .im (.lst items)] ∨ ms = [Pot.m nmPot pot, .im (.tup items)]) ∧ r = .li out.1 ∧ ms' = [Pot.m nmPot out.2]
end RL

set_option maxHeartbeats 2000000
/-! RL83: sameness that shows both sides -/
namespace RL
open PySem L2
mutual
/-- data that can be told the same, and shown, of a bounded depth -/
def D.pq : Nat → D → Bool
  | _, .non => true
  | _, .bl _ => true
  | _, .int _ => true
  | _, .str _ => true
  | n + 1, .tup l => ((shDD (.tup l)).isSome && decide (l.length ≤ 1000000)) && pqs n l
  | n + 1, .lst l => ((shDD (.lst l)).isSome && decide (l.length ≤ 1000000)) && pqs n l
  | _, _ => false
def pqs : Nat → List D → Bool
  | _, [] => true
  | n, d :: l => D.pq n d && pqs n l
end
theorem pq_ty {d : D} {n : Nat} (h : D.pq n d = true) : ∀ m, d ≠ .ty m := fun m e => by
  subst e
  cases n <;> (unfold D.pq at h; cases h)
mutual
theorem D.beq_pq : ∀ {n : Nat} {x : D}, D.pq n x = true → D.beq x x = true
  | n, .non, h => by unfold D.beq; rfl
  | n, .bl b, h => by unfold D.beq; simp
  | n, .int i, h => by unfold D.beq; simp
  | n, .str i, h => by unfold D.beq; simp
  | 0, .tup l, h => by unfold D.pq at h; cases h
  | n + 1, .tup l, h => by
    unfold D.pq at h
    rw [Bool.and_eq_true] at h
    unfold D.beq
    exact beqs_pq h.2
  | 0, .lst l, h => by unfold D.pq at h; cases h
  | n + 1, .lst l, h => by
    unfold D.pq at h
    rw [Bool.and_eq_true] at h
    unfold D.beq
    exact beqs_pq h.2
  | 0, .dct l, h => by unfold D.pq at h; cases h
  | n + 1, .dct l, h => by unfold D.pq at h; cases h
  | 0, .tpw l, h => by unfold D.pq at h; cases h
  | n + 1, .tpw l, h => by unfold D.pq at h; cases h
  | 0, .ty l, h => by unfold D.pq at h; cases h
  | n + 1, .ty l, h => by unfold D.pq at h; cases h
theorem beqs_pq : ∀ {n : Nat} {l : List D}, pqs n l = true → beqs l l = true
  | n, [], h => by unfold beqs; rfl
  | n, a :: l, h => by
    unfold pqs at h
    rw [Bool.and_eq_true] at h
    unfold beqs
    show (D.beq a a && beqs l l) = true
    rw [D.beq_pq h.1, beqs_pq h.2] <;> rfl
end
abbrev samePR (n : Nat) : List M → M → List M → Prop := fun ms r ms' => ∃ d : D, D.pq n d = true ∧ ms = [.im d, .im d] ∧ r = .im (.bl true) ∧ ms' = []
def sameQ (n : Nat) (x y : D) : Bool := D.pq n y && D.beq x y
theorem sameQ_ok {n : Nat} {x : D} (h : D.pq n x = true) : sameQ n x x = true := by
  unfold sameQ
  rw [h, D.beq_pq h] <;> rfl
theorem sameQ_pq {n : Nat} {x y : D} {u : Unit} (h : gd (sameQ n x y) = some u) : D.pq n y = true := by
  have h := gd_t h
  unfold sameQ at h
  rw [Bool.and_eq_true] at h
  exact h.1
theorem sameQ_eq {n : Nat} {x y : D} {u : Unit} (h : gd (sameQ n x y) = some u) : x = y := by
  have h := gd_t h
  unfold sameQ at h
  rw [Bool.and_eq_true] at h
  exact D.beq_eq h.2
open Classical in
noncomputable def samePF (n : Nat) (_ : Unit) (x : D × D) : Option (Unit × Option Bool) := if x.1 = x.2 ∧ D.pq n x.2 = true then some ((), some true) else none
theorem samePF_inv {n : Nat} {u : Unit} {c : D × D} {r : Unit × Option Bool} (h : samePF n u c = some r) : c.1 = c.2 ∧ D.pq n c.2 = true ∧ r = ((), some true) := by
  unfold samePF at h
  split at h
  next hq => exact ⟨hq.1, hq.2, (Option.some.inj h).symm⟩
  next => cases h
theorem samePF_all {n : Nat} : ∀ {l : List D}, pqs n l = true → lcM (samePF n) () (l.zip l) = some ((), List.replicate l.length true)
  | [], h => rfl
  | d :: l, h => by
    unfold pqs at h
    rw [Bool.and_eq_true] at h
    rw [List.zip_cons_cons]
    unfold lcM
    have e : samePF n () (d, d) = some ((), some true) := by unfold samePF; rw [if_pos ⟨rfl, h.1⟩]
    rw [e]
    show (lcM (samePF n) () (l.zip l)).bind _ = _
    rw [samePF_all h.2]
    rfl
theorem all_rep (n : Nat) : (List.replicate n true).all id = true := by simp
theorem FnG.or {P : Program} {w : World} {K : PySem.W.Frag} {mg : Str → Option Value} {base : Heap} {k : Nat} {f : Addr} {fd : FuncData} {ps : List Str} {s1 s2 sp' : Sp} (F1 : FnG P w K mg base k f fd ps s1) (F2 : FnG P w K mg base k f fd ps s2) (h : ∀ vs H Q E, sp' vs H Q E → s1 vs H Q E ∨ s2 vs H Q E) : FnG P w K mg base k f fd ps sp' :=
  ⟨fun vs H Q E q => (h _ _ _ _ q).elim (F1.len vs H Q E) (F2.len vs H Q E), fun A outer s H args us vs Q E hr hg he hb hv hs => (h _ _ _ _ hs).elim (F1.go A outer s H args us vs Q E hr hg he hb hv) (F2.go A outer s H args us vs Q E hr hg he hb hv)⟩
end RL

set_option maxHeartbeats 2000000
/-! RL84: dicts by numbers -/
namespace RL
open PySem L2
/-- what stands at a key -/
def lookE {κ α : Type} [DecidableEq κ] : List (κ × α) → κ → Option α
  | [], _ => none
  | (k, v) :: l, x => if k = x then some v else lookE l x
def putE {κ α : Type} [DecidableEq κ] (l : List (κ × α)) (k : κ) (v : α) : List (κ × α) := if (lookE l k).isSome = true then l.map (fun p => if p.1 = k then (p.1, v) else p) else l ++ [(k, v)]
section
variable {X : Cx} {C : Cn} {Γ Γ1 Γ2 : Ctx} {Ts Hs : List T} {nme nm e b a kx : Expr} {pos p : Pos} {α : Type} {f : α → D} {x : α}
abbrev dkI (f : α → D) (l : List (Int × α)) : M := .dk (l.map fun p => ((.inl p.1 : Key), M.im (f p.2)))
theorem getM_lookI {f : α → D} {x : Int} : ∀ {l : List (Int × α)}, getM (l.map fun p => ((.inl p.1 : Key), M.im (f p.2))) (.inl x) = (lookE l x).map fun y => .im (f y)
  | [] => rfl
  | (k, v) :: l => by
    unfold lookE
    show getM ((.inl k, M.im (f v)) :: l.map fun p => ((.inl p.1 : Key), M.im (f p.2))) (.inl x) = _
    unfold getM
    by_cases e : k = x
    · rw [if_pos e, if_pos (congrArg Sum.inl e)] <;> rfl
    · rw [if_neg e, if_neg fun z => e (Sum.inl.inj z)]
      exact getM_lookI
theorem putM_I {f : α → D} {l : List (Int × α)} {k : Int} {v : α} : M.dk (putM (l.map fun p => ((.inl p.1 : Key), M.im (f p.2))) (.inl k) (.im (f v))) = dkI f (putE l k v) := by
  unfold putM putE
  rw [getM_lookI, Option.isSome_map]
  by_cases e : (lookE l k).isSome = true
  · rw [if_pos e, if_pos e, List.map_map]
    show M.dk _ = M.dk _
    rw [List.map_map]
    congr 1
    apply List.map_congr_left
    intro p _
    show (if (Sum.inl p.1 : Key) = Sum.inl k then _ else _) = _
    by_cases z : p.1 = k
    · rw [if_pos (congrArg Sum.inl z)]
      show _ = (fun p : Int × α => ((.inl p.1 : Key), M.im (f p.2))) (if p.1 = k then (p.1, v) else p)
      rw [if_pos z]
    · rw [if_neg fun y => z (Sum.inl.inj y)]
      show _ = (fun p : Int × α => ((.inl p.1 : Key), M.im (f p.2))) (if p.1 = k then (p.1, v) else p)
      rw [if_neg z]
  · rw [if_neg e, if_neg e]
    show _ = M.dk (List.map _ _)
    rw [List.map_append] <;> rfl
/-- what a dict by numbers is changed to -/
theorem gu_dkI {q : Int} {l : List (Int × α)} (j : Nat) (hu : X.A.units + 64 < cLine) (hn : PE X nme (tVar j)) (hj : Γ[j]? = some (some (dkI f l))) (h1 : EQ X C Γ kx (.int q)) (hl : l.length < sizeLine)
    (ha : ∀ v, assign (.Subscript nme kx pos) X.env v = (do
      let ov ← holding [v] (eval nme X.env)
      let iv ← holding [v, ov] (eval kx X.env)
      standAt pos
      holding [v, ov, iv] (setItem ov iv v)
      release [v, ov, iv] []) := by intro _; rfl) :
    GU X C Hs Γ (.Subscript nme kx pos) (f x) (Γ.set j (some (dkI f (putE l q x)))) := by
  obtain ⟨t1, p1, q1⟩ := h1
  refine (pg_sub hn p1 (set_dict (by omega)) ha).wk fun v σ H Q ⟨hs, h, r, q'⟩ => ?_
  obtain ⟨w, F1, hw, rr, chg⟩ := h.slot hj
  unfold rM at rr
  obtain ⟨a, kvs, F0, rfl, ho, rk, hn0, ff⟩ := rr
  refine ⟨.ref a, hw, q1 σ H _ _ _ h fun y ry => ?_⟩
  unfold rD at ry
  subst ry
  have ln : kvs.length < sizeLine := by
    rw [rk.len, List.length_map]; exact hl
  refine ⟨a, _, rfl, DPut.k (k := .inl q) ho ln, q' σ _ (TF.write (by rw [ho]; trivial)) ?_⟩
  have tf : TF H (upd H a (.dK (putK kvs (.inl q) v))) := TF.write (by rw [ho]; trivial)
  have put : ∃ F', rMk C.K (putM (l.map fun p => ((.inl p.1 : Key), M.im (f p.2))) (.inl q) (.im (f x))) (putK kvs (.inl q) v) H F' ∧ ∀ b, F' b → F0 b := by
    unfold putM putK
    rw [← getM_val (k := .inl q) rk, ← valV_any]
    by_cases z : (kvs.any fun kv => decide (kv.1 = .inl q)) = true
    · rw [if_pos z, if_pos z]
      exact rk.map r
    · rw [if_neg z, if_neg z]
      exact ⟨_, rMk.snoc (G := e0) (by unfold rM; exact ⟨r, fun _ y => y⟩) rk Dj.e0r, fun b y => y.elim id fun y => y.elim⟩
  obtain ⟨F', rp, n'⟩ := put
  rw [← putM_I]
  refine chg _ _ (fun b => b = a ∨ F' b) tf (fun b nb _ => upd_ne fun y => nb ((ff b).2 (.inl y))) ?_ fun b y => .inl ((ff b).2 (y.imp id (n' b)))
  unfold rM
  exact ⟨a, _, F', rfl, upd_same, rMk.st tf (fun b y => upd_ne fun y2 => hn0 (n' a (y2 ▸ y))) rp, fun y => hn0 (n' a y), fun b => Iff.rfl⟩
/-- d[k] -/
theorem ee_dkIxI {q : Int} {l : List (Int × α)} (hu : X.A.units + 64 < cLine) (j : Nat) (hn : PE X nm (tVar j)) (hj : Γ[j]? = some (some (dkI f l))) (hk : EE X C Γ (Ts ++ [.al j]) b Γ (.im (.int q))) (hx : lookE l q = some x) (hs : PlainIx b := by exact fun _ _ => rfl) : EE X C Γ Ts (.Subscript nm b pos) Γ (.im (f x)) :=
  ee_at (s := .k (.inl q)) j (sub_k hu) hn hj hk (by show getM _ _ = _; rw [getM_lookI, hx] <;> rfl) hs
theorem s1_tbl {β γ : Type} {f : γ → D} {r : List γ} {xs : List β} {rows : List (List γ)} {st : Stmt} {Γ0 : Ctx} {i : Nat} (h : (xs.map fun _ => r) = rows) (he : S1 X C Hs Γ st (.nx (Γ0.set i (some (.ll (xs.map fun _ => .li (r.map f))))))) : S1 X C Hs Γ st (.nx (Γ0.set i (some (tbl f rows)))) := by
  subst h
  unfold tbl
  rw [List.map_map]
  exact he
/-- {} -/
theorem ee_dict0 : EE X C Γ Ts (.Dict [] [] pos) Γ (.own (.dk [])) := pe_dnewK.wk fun σ H Q ⟨vs, h, q⟩ p hp => q (.ref p) _ (h.push (Ext.new hp) (t := .own (.dk [])) (F := fun a => a = p) (by
    show rM _ _ _ _ _
    unfold rM
    exact ⟨p, [], e0, rfl, upd_same, by unfold rMk; exact ⟨rfl, fun _ z => z⟩, fun z => z, fun b => ⟨.inl, fun z => z.elim id fun y => y.elim⟩⟩) (fun a e => by rw [e]; exact hp) fun a e => by rw [e, upd_same]; trivial)
end
end RL

set_option maxHeartbeats 2000000
/-! RL85: data that repr shows, of short leaves -/
namespace RL
open PySem L2
/-! ### what repr shows -/
def FN (k n : Nat) (d : D) : Prop := d.ok = true ∧ d.p.showable = true ∧ d.p.hasDict = false ∧ d.p.leavesShort 100 = true ∧ d.p.depth ≤ k ∧ d.p.bulk ≤ n
theorem shDD_fn {k n : Nat} {d : D} (h : FN k n d) (hk : k ≤ 60) (hn : n ≤ 160000) : ∃ s, shDD d = some s := by
  obtain ⟨h1, h2, h3, h4, h5, h6⟩ := h
  have b := PyData.shown_le_bulk 100 (by omega) d.p h4
  have s : d.p.shown.length ≤ sizeLine := by
    have : (16777216 : Nat) = sizeLine := by decide
    have e : 102 * d.p.bulk ≤ 102 * 160000 := Nat.mul_le_mul_left _ (by omega)
    omega
  unfold shDD shows
  rw [if_pos (by simp only [h1, h2, h3, Bool.and_eq_true, decide_eq_true_eq, Bool.not_false, true_and]; exact ⟨by omega, s⟩)]
  exact ⟨_, rfl⟩
theorem fn_int {k n : Nat} {i : Int} (h : i.natAbs < 10 ^ 12) : FN k n (.int i) := by
  have e1 := PyData.shown_int_le h
  have h2 : i.natAbs.log2 < 1920 := by
    by_cases z : i.natAbs = 0
    · rw [z]; decide
    · rw [Nat.log2_lt z]
      exact Nat.lt_trans h (by decide)
  refine ⟨by unfold D.ok; rfl, ?_, ?_, ?_, ?_, ?_⟩ <;> unfold D.p
  · unfold PyData.showable; exact decide_eq_true h2
  · unfold PyData.hasDict; rfl
  · unfold PyData.leavesShort; exact decide_eq_true (by omega)
  · unfold PyData.depth; omega
  · unfold PyData.bulk; omega
theorem fn_non {k n : Nat} : FN k n .non := by
  refine ⟨by unfold D.ok; rfl, ?_, ?_, ?_, ?_, ?_⟩ <;> unfold D.p
  · unfold PyData.showable; rfl
  · unfold PyData.hasDict; rfl
  · unfold PyData.leavesShort; rfl
  · unfold PyData.depth; omega
  · unfold PyData.bulk; omega
theorem fn_str {k n : Nat} {s : Str} (h : PyData.strOk s = true) (hl : s.cps.size ≤ n) : FN k n (.str s) := by
  refine ⟨by unfold D.ok; exact h, ?_, ?_, ?_, ?_, ?_⟩ <;> unfold D.p
  · unfold PyData.showable; rfl
  · unfold PyData.hasDict; rfl
  · unfold PyData.leavesShort
    rw [List.all_eq_true]
    intro c hc
    unfold PyData.strOk at h
    rw [Array.all_eq_true_iff_forall_mem] at h
    have := of_decide_eq_true (h c (Array.mem_toList_iff.mp hc))
    exact decide_eq_true (by omega)
  · unfold PyData.depth; omega
  · unfold PyData.bulk; exact hl
theorem fn_all {k n : Nat} : ∀ {l : List D}, (∀ d ∈ l, FN k n d) → oks l = true ∧ PyData.showableAll (ps l) = true ∧ PyData.hasDictAll (ps l) = false ∧ PyData.leavesShortAll 100 (ps l) = true ∧ PyData.depthAll (ps l) ≤ k ∧ PyData.bulkAll (ps l) ≤ l.length * (n + 1)
  | [], _ => by
    refine ⟨by unfold oks; rfl, ?_, ?_, ?_, ?_, ?_⟩ <;> unfold ps
    · unfold PyData.showableAll; rfl
    · unfold PyData.hasDictAll; rfl
    · unfold PyData.leavesShortAll; rfl
    · unfold PyData.depthAll; omega
    · unfold PyData.bulkAll; omega
  | d :: l, h => by
    obtain ⟨a1, a2, a3, a4, a5, a6⟩ := h d (by simp)
    obtain ⟨b1, b2, b3, b4, b5, b6⟩ := fn_all (l := l) fun x hx => h x (by simp [hx])
    refine ⟨by unfold oks; rw [a1, b1] <;> rfl, ?_, ?_, ?_, ?_, ?_⟩ <;> unfold ps
    · unfold PyData.showableAll; rw [a2, b2] <;> rfl
    · unfold PyData.hasDictAll; rw [a3, b3] <;> rfl
    · unfold PyData.leavesShortAll; rw [a4, b4] <;> rfl
    · unfold PyData.depthAll; omega
    · unfold PyData.bulkAll
      rw [List.length_cons, Nat.add_mul, Nat.one_mul]
      omega
theorem fn_tup {k n m : Nat} {l : List D} (h : ∀ d ∈ l, FN k n d) (hl : l.length ≤ m) : FN (k + 1) (m * (n + 1)) (.tup l) := by
  obtain ⟨b1, b2, b3, b4, b5, b6⟩ := fn_all h
  have e : l.length * (n + 1) ≤ m * (n + 1) := Nat.mul_le_mul_right _ hl
  refine ⟨by unfold D.ok; exact b1, ?_, ?_, ?_, ?_, ?_⟩ <;> unfold D.p
  · unfold PyData.showable; exact b2
  · unfold PyData.hasDict; exact b3
  · unfold PyData.leavesShort; exact b4
  · unfold PyData.depth; omega
  · unfold PyData.bulk; omega
theorem fn_lst {k n m : Nat} {l : List D} (h : ∀ d ∈ l, FN k n d) (hl : l.length ≤ m) : FN (k + 1) (m * (n + 1)) (.lst l) := by
  obtain ⟨b1, b2, b3, b4, b5, b6⟩ := fn_all h
  have e : l.length * (n + 1) ≤ m * (n + 1) := Nat.mul_le_mul_right _ hl
  refine ⟨by unfold D.ok; exact b1, ?_, ?_, ?_, ?_, ?_⟩ <;> unfold D.p
  · unfold PyData.showable; exact b2
  · unfold PyData.hasDict; exact b3
  · unfold PyData.leavesShort; exact b4
  · unfold PyData.depth; omega
  · unfold PyData.bulk; omega
theorem fn_map {α : Type} {k n : Nat} {f : α → D} {l : List α} (h : ∀ x ∈ l, FN k n (f x)) : ∀ d ∈ l.map f, FN k n d := fun d hd => by
  obtain ⟨x, hx, rfl⟩ := List.mem_map.mp hd
  exact h x hx
theorem fn_two {k n : Nat} {a b : D} (h1 : FN k n a) (h2 : FN k n b) : ∀ d ∈ [a, b], FN k n d := fun d hd => by
  rcases List.mem_cons.mp hd with e | hd
  · subst e; exact h1
  · rcases List.mem_cons.mp hd with e | hd
    · subst e; exact h2
    · nomatch hd
/-- by the count of rounds -/
theorem fn_mono {k n k' n' : Nat} {d : D} (h : FN k n d) (h1 : k ≤ k') (h2 : n ≤ n') : FN k' n' d := ⟨h.1, h.2.1, h.2.2.1, h.2.2.2.1, Nat.le_trans h.2.2.2.2.1 h1, Nat.le_trans h.2.2.2.2.2 h2⟩
theorem fn_mem : ∀ {l : List D} {k n : Nat}, oks l = true → PyData.showableAll (ps l) = true → PyData.hasDictAll (ps l) = false → PyData.leavesShortAll 100 (ps l) = true → PyData.depthAll (ps l) ≤ k → PyData.bulkAll (ps l) ≤ n → (∀ d ∈ l, FN k n d) ∧ l.length ≤ n
  | [], k, n, _, _, _, _, _, _ => ⟨fun d hd => (nomatch hd), Nat.zero_le _⟩
  | d :: l, k, n, h1, h2, h3, h4, h5, h6 => by
    unfold oks at h1
    unfold ps at h2 h3 h4 h5 h6
    unfold PyData.showableAll at h2
    unfold PyData.hasDictAll at h3
    unfold PyData.leavesShortAll at h4
    unfold PyData.depthAll at h5
    unfold PyData.bulkAll at h6
    simp only [Bool.and_eq_true, Bool.or_eq_false_iff] at h1 h2 h3 h4
    obtain ⟨z, zl⟩ := fn_mem (l := l) (k := k) (n := n - 1) h1.2 h2.2 h3.2 h4.2 (by omega) (by omega)
    refine ⟨fun x hx => ?_, by simp; omega⟩
    rcases List.mem_cons.mp hx with e | e
    · rw [e]
      exact ⟨h1.1, h2.1, h3.1, h4.1, by omega, by omega⟩
    · exact fn_mono (z x e) (Nat.le_refl _) (by omega)
mutual
theorem pq_fn : ∀ (d : D) {k n m : Nat}, FN k m d → k ≤ n → k ≤ 60 → m ≤ 160000 → D.pq n d = true
  | .non, k, n, m, _, _, _, _ => by unfold D.pq; cases n <;> rfl
  | .bl b, k, n, m, _, _, _, _ => by unfold D.pq; cases n <;> rfl
  | .int i, k, n, m, _, _, _, _ => by unfold D.pq; cases n <;> rfl
  | .str i, k, n, m, _, _, _, _ => by unfold D.pq; cases n <;> rfl
  | .dct l, k, n, m, h, _, _, _ => by
    have z := h.1
    unfold D.ok at z
    cases z
  | .ty l, k, n, m, h, _, _, _ => by
    have z := h.1
    unfold D.ok at z
    cases z
  | .tpw l, k, n, m, h, _, _, _ => by
    have z := h.1
    unfold D.ok at z
    cases z
  | .tup l, k, n, m, h, hk, h60, hm => by
    obtain ⟨s, hs⟩ := shDD_fn h h60 hm
    have hq := h
    obtain ⟨h1, h2, h3, h4, h5, h6⟩ := h
    unfold D.ok at h1
    unfold D.p at h2 h3 h4 h5 h6
    unfold PyData.showable at h2
    unfold PyData.hasDict at h3
    unfold PyData.leavesShort at h4
    unfold PyData.depth at h5
    unfold PyData.bulk at h6
    obtain ⟨z, zl⟩ := fn_mem (k := k - 1) (n := m) h1 h2 h3 h4 (by omega) h6
    cases n with
    | zero => omega
    | succ n =>
      unfold D.pq
      rw [hs, decide_eq_true (show l.length ≤ 1000000 by omega), pqs_fn l z (by omega) (by omega) hm] <;> rfl
  | .lst l, k, n, m, h, hk, h60, hm => by
    obtain ⟨s, hs⟩ := shDD_fn h h60 hm
    have hq := h
    obtain ⟨h1, h2, h3, h4, h5, h6⟩ := h
    unfold D.ok at h1
    unfold D.p at h2 h3 h4 h5 h6
    unfold PyData.showable at h2
    unfold PyData.hasDict at h3
    unfold PyData.leavesShort at h4
    unfold PyData.depth at h5
    unfold PyData.bulk at h6
    obtain ⟨z, zl⟩ := fn_mem (k := k - 1) (n := m) h1 h2 h3 h4 (by omega) h6
    cases n with
    | zero => omega
    | succ n =>
      unfold D.pq
      rw [hs, decide_eq_true (show l.length ≤ 1000000 by omega), pqs_fn l z (by omega) (by omega) hm] <;> rfl
theorem pqs_fn : ∀ (l : List D) {k n m : Nat}, (∀ d ∈ l, FN k m d) → k ≤ n → k ≤ 60 → m ≤ 160000 → pqs n l = true
  | [], k, n, m, _, _, _, _ => by unfold pqs; rfl
  | d :: l, k, n, m, h, hk, h60, hm => by
    unfold pqs
    rw [pq_fn d (h d (by simp)) hk h60 hm, pqs_fn l (fun x hx => h x (by simp [hx])) hk h60 hm] <;> rfl
end
theorem sameQ_fn {k n m : Nat} {d : D} (h : FN k m d) (hk : k ≤ n) (h60 : k ≤ 60) (hm : m ≤ 160000) : sameQ n d d = true := sameQ_ok (pq_fn d h hk h60 hm)
end RL

set_option maxHeartbeats 4000000
/-! RL86: the first place of an equal datum -/
namespace RL
open PySem L2 PySem.Spec PyProof.Rows
/-- the first place of an equal one -/
def idxE {α : Type} [DecidableEq α] : List α → α → Option Int
  | [], _ => none
  | y :: l, x => if y = x then some 0 else (idxE l x).map (· + 1)
theorem idxE_at {α : Type} [DecidableEq α] : ∀ {l : List α} {x : α} {i : Int}, idxE l x = some i → ∃ j : Nat, i = j ∧ l[j]? = some x ∧ ∀ m, m < j → ∀ z, l[m]? = some z → z ≠ x
  | [], x, i, h => by cases h
  | y :: l, x, i, h => by
    unfold idxE at h
    by_cases e : y = x
    · rw [if_pos e] at h
      cases h
      exact ⟨0, rfl, by simp [e], fun m hm => by omega⟩
    · rw [if_neg e] at h
      cases q : idxE l x with
      | none => rw [q] at h; cases h
      | some k =>
        rw [q] at h
        cases h
        obtain ⟨j, rfl, h1, h2⟩ := idxE_at q
        refine ⟨j + 1, by simp, by simpa using h1, fun m hm z hz => ?_⟩
        cases m with
        | zero => simp at hz; rw [← hz]; exact e
        | succ m => exact h2 m (by omega) z (by simpa using hz)
def rIdxD (K : PySem.W.Frag) (b : Bool) : V → List V → Hp → VK → Prop := fun x xs H Q => ∃ (a : Addr) (y : V) (ds : List D) (vs : List V) (d z : D) (j : Nat), x = V.ref a ∧ xs = [y] ∧ (if b = true then SqT K H a vs else SqL K H a vs) ∧ rDs K ds vs H ∧ oks ds = true ∧ rD K d y H ∧ d.ok = true ∧ d.p.depth ≤ 60 ∧
  ds[j]? = some z ∧ PyData.eqv z.p d.p = true ∧ (∀ (m : Nat) (z' : D), m < j → ds[m]? = some z' → PyData.eqv z'.p d.p = false) ∧ Q (.int (j : Nat)) H
section
variable {X : Cx}
theorem ps_at {ds : List D} {j : Nat} {z : D} (h : ds[j]? = some z) : (ps ds)[j]? = some z.p := by
  induction ds generalizing j with
  | nil => simp at h
  | cons d ds ih =>
    unfold ps
    cases j with
    | zero => simp at h; simp [h]
    | succ j => simpa using ih (by simpa using h)
theorem ps_length (ds : List D) : (ps ds).length = ds.length := by
  induction ds with
  | nil => unfold ps; rfl
  | cons d ds ih => unfold ps; simp [ih]
theorem mt_idxT (hu : X.A.units + 64 < cLine) : MtR X "tuple.index" (rIdxD X.K true) := by
  intro pins s σ H x xs v us Q I rx rxs h
  obtain ⟨a, y, ds, vs, d, z, j, rfl, rfl, hs, rd, ok, ry, dok, dd, hz, hzj, hno, q⟩ := h
  rw [if_pos rfl] at hs
  cases rx
  obtain ⟨u, rfl, ru⟩ := vals1 rxs
  obtain ⟨its, rv, pl, hlen⟩ := I.tuple hs
  obtain ⟨⟨cls, dct, dt, sl⟩, ho, hc, n, hd⟩ := pl
  simp only at hc hd
  subst hc
  subst hd
  obtain ⟨as, h4⟩ := rDs.reads I ok rd rv
  obtain ⟨bs, r1⟩ := ry.reads I dok ru
  have hxs : PyData.canLayAll0 (ps ds) = true := oks_lay ok
  have hxd : d.p.canLay0 = true := D.ok_lay dok
  have hn : its.length = (ps ds).length := SeqAt.ReadsAll.length _ its as h4
  have hmap : its.map (SeqAt.readOf s.heap) = ps ds := SeqAt.readsAll_map _ its as hxs h4
  have hsl := sizeLine_eq
  rw [ps_length] at hn
  have hl1 := rd.len
  have hl2 := rv.length
  obtain ⟨hjd, _⟩ := List.getElem?_eq_some_iff.mp hz
  have hj : j < its.toArray.size := by simp; omega
  have at_ : ∀ (m : Nat) (hm : m < its.toArray.size) (z' : D), ds[m]? = some z' → SeqAt.readOf s.heap its.toArray[m] = z'.p := by
    intro m hm z' hz'
    have hml : m < its.length := by simpa using hm
    have e0 := ps_at hz'
    rw [← hmap, List.getElem?_map, List.getElem?_eq_getElem hml] at e0
    have e1 : SeqAt.readOf s.heap its[m] = z'.p := Option.some.inj (show some (SeqAt.readOf s.heap its[m]) = some z'.p from e0)
    simpa using e1
  refine call_meets PySem.F.slot_tuple_index ⟨_, ho, rfl⟩ PySem.F.entry_tuple_index (PySem.F.args_tuple_index_2 _ _)
    (_root_.TI.tuple_indexAt a its.toArray n dct sl u (fun w => PyData.eqv (SeqAt.readOf s.heap w) d.p) j hj ?_ ?_) ⟨ho, SeqAt.items_eqAt (vs := its.toArray) (show ReadsAll s.heap its.toArray.toList (ps ds) as from h4) r1 hxs hxd (by show X.A.in1.units + min (PyData.depthAll (ps ds)) d.p.depth < cLine; have : X.A.in1.units = X.A.units + 1 := rfl; omega), ?_⟩
  · show PyData.eqv (SeqAt.readOf s.heap its.toArray[j]) d.p = true
    rw [at_ j hj z hz]
    exact hzj
  · intro m hm hmj
    have hmd : m < ds.length := by omega
    have hz' : ds[m]? = some ds[m] := List.getElem?_eq_getElem hmd
    show PyData.eqv (SeqAt.readOf s.heap its.toArray[m]) d.p = false
    rw [at_ m hm _ hz']
    exact hno m _ hmj hz'
  · exact ⟨.int (j : Nat), H, I.tok _, ⟨_, rfl⟩, q⟩
end
section
variable {X : Cx}
def tBMT (K : PySem.W.Frag) (r : V → List V → Hp → VK → Prop) (to : TE) (t : TA) : TE := fun σ H Q => to σ H fun x H1 => (∃ a xs, x = .ref a ∧ SqN K H1 a xs) ∧ t σ H1 fun vs H2 => r x vs H2 Q
theorem sqn_is {pins : List (Addr × Obj)} {σ : L2.St} {H : Hp} {s : Shared} {a : Addr} {xs : List V} (I : Inv X pins σ H s) (h : SqN X.K H a xs) : s.TypeIs (.ref a) "tuple" ∧ ∃ ob, s.heap.get? a = some ob ∧ ob.dict = none := by
  obtain ⟨its, _, p, _⟩ := I.tuple h.t
  refine ⟨p.typeIs, ?_⟩
  rcases h.n with ⟨o, u, h1, h2⟩ | ⟨o, h1, h2⟩
  · exact ⟨o, (I.hok a _ h1).1, h2⟩
  · exact ⟨o, I.kIn a o h1, h2⟩
theorem pe_bmT {o e : Expr} {es : List Expr} {to : TE} {t : TA} {name : Str} {apos cpos : Pos} {id : String} {r : V → List V → Hp → VK → Prop} (slot : Slot "tuple" name id) (hty : typeOf (.builtin id) = pure (.type "method_descriptor")) (hm : MtR X id r) (ho : PE X o to) (ha : PA X (e :: es) t)
    (hbase : attributeBase o name X.env (eval o X.env) = eval o X.env)
    (hfew : ((backTo cpos (starEach (e :: es) X.env)).all (fun x => !x.1) && (backToKw cpos (keywordEach [] X.env)).all (fun x => x.1.isSome)
      && decide ((e :: es).length + ([] : List Keyword).length + (if ([] : List Keyword).isEmpty then 0 else 1) < 30)) = true)
    (hline : (apos.endLine == cpos.line) = true) (hs : starEach (e :: es) X.env = (false, eval e X.env) :: starEach es X.env) (hplain : (backTo cpos (starEach es X.env)).any (·.1) = false) :
    PE X (.Call (.Attribute o name apos) (e :: es) [] cpos) (tBMT X.K r to t) := by
  constructor
  intro pins s σ H Q I h
  refine wpAny_Call_method_late hbase hfew hline rfl (thn (ho.run pins s σ H _ I h) fun v s1 ⟨x, H1, I1, r1, ⟨a, xs, ex, hn⟩, q1⟩ => ?_)
  subst ex
  cases (show v = Value.ref a from r1)
  obtain ⟨h1, ob, h2, h3⟩ := sqn_is I1 hn
  refine ⟨"tuple", id, PySem.F.plainAttrs_tuple, slot, hty, h1, fun b eb => by cases eb; exact ⟨ob, h2, h3⟩, ?_⟩
  have hA := ha.run cpos pins s1 σ H1 _ I1 q1
  rw [hs] at hA ⊢
  refine Calls.callWith_builtin (by show (false || (backTo cpos (starEach es X.env)).any (·.1)) = false; rw [hplain] <;> rfl) (Calls.evalArgs_plain ?_)
  exact thn hA fun us s2 ⟨vs, H2, I2, r2, q2⟩ => hm pins s2 σ H2 (.ref a) vs _ us Q I2 rfl r2 q2
end
section
variable {X : Cx} {C : Cn} {Γ Γ1 Γ2 : Ctx} {Ts : List T} {a e : Expr} {pos apos : Pos} {n : Int} {α : Type} [DecidableEq α] {f : α → D} {xs : List α} {x : α} {k : Nat} {t : T}
/-- t.index(x), t a tuple -/
theorem ee_idxT (hu : X.A.units + 64 < cLine) (E : EqT f k) (hk : k ≤ 20) (h1 : EE X C Γ Ts a Γ1 (.im (.tup (xs.map f)))) (h2 : EE X C Γ1 (Ts ++ [.im (.tup (xs.map f))]) e Γ2 (.im (f x))) (hi : idxE xs x = some n)
    (hK : X.K = C.K := by rfl)
    (hbase : attributeBase a "index" X.env (eval a X.env) = eval a X.env := by rfl)
    (hfew : ((backTo pos (starEach [e] X.env)).all (fun x => !x.1) && (backToKw pos (keywordEach [] X.env)).all (fun x => x.1.isSome)
      && decide ([e].length + ([] : List Keyword).length + (if ([] : List Keyword).isEmpty then 0 else 1) < 30)) = true := by rfl)
    (hline : (apos.endLine == pos.line) = true := by rfl) (hs : starEach [e] X.env = (false, eval e X.env) :: starEach [] X.env := by rfl) (hplain : (backTo pos (starEach [] X.env)).any (·.1) = false := by rfl) :
    EE X C Γ Ts (.Call (.Attribute a "index" apos) [e] [] pos) Γ2 (.im (.int n)) :=
  (pe_bmT PySem.F.slot_tuple_index PySem.F.type_tuple_index (mt_idxT hu) h1 (ea_cons h2 ea_nil hs) hbase hfew hline hs hplain).wk fun σ H Q ⟨vs, h, q⟩ => ⟨vs, h, fun v H1 h1 => by
    refine ⟨?_, vs ++ [v], h1, fun us H2 hl h2 => ?_⟩
    · have r := h1.topIm
      unfold rD at r
      obtain ⟨p, ws, e, hn, _⟩ := r
      exact ⟨p, ws, e, by rw [hK]; exact hn⟩
    obtain ⟨w, rfl⟩ : ∃ w, us = [w] := List.length_eq_one_iff.mp hl
    have h3 : As C Γ2 ((Ts ++ [.im (.tup (xs.map f))]) ++ [.im (f x)]) σ ((vs ++ [v]) ++ [w]) H2 := by simpa using h2
    have r1 := h3.topIm
    have r2 := h3.pop.topIm
    unfold rD at r2
    obtain ⟨p, ws, rfl, hs', rd⟩ := r2
    obtain ⟨j, rfl, h4, h5⟩ := idxE_at hi
    refine ⟨p, w, xs.map f, ws, f x, f x, j, rfl, rfl, by rw [if_pos rfl, hK]; exact hs'.t, by rw [hK]; exact rd, oks_map _ fun y _ => E.ok y, by rw [hK]; exact r1, E.ok x, by have := E.dp x; omega, by rw [List.getElem?_map, h4] <;> rfl, ?_, fun m z' hm hz => ?_, ?_⟩
    · rw [E.eq]
      simp
    · rw [List.getElem?_map] at hz
      cases q2 : xs[m]? with
      | none => rw [q2] at hz; cases hz
      | some y =>
        rw [q2] at hz
        cases hz
        rw [E.eq]
        exact decide_eq_false (h5 m hm y q2)
    · exact q _ H2 (h3.pop.pop.pushIm Ext.refl (by unfold rD; rfl))⟩
end
end RL

set_option maxHeartbeats 4000000
/-! RL87: events: a word of three and numbers -/
namespace RL
open PySem L2 PySem.Spec PyProof.Rows PySem.W
inductive EvW where
  | hand | look | raised
  deriving DecidableEq
def EvW.s : EvW → Str
  | .hand => "hand"
  | .look => "look"
  | .raised => "raise"
abbrev Ev := EvW × List Int
abbrev eEv (e : Ev) : D := .tup (.str e.1.s :: e.2.map .int)
theorem EvW.ok (w : EvW) : (D.str w.s).ok = true := by
  unfold D.ok
  cases w <;> decide +kernel
theorem EvW.inj {a b : EvW} (h : a.s = b.s) : a = b := by
  cases a <;> cases b <;> first | rfl | (exfalso; revert h; decide)
theorem eqt_ev {k : Nat} : EqT eEv (k + 2) := by
  have E := eqt_tl (eqt_int (k := 1))
  refine ⟨fun x => ?_, fun x => ?_, fun x y => ?_⟩
  · show (D.tup _).ok = true
    unfold D.ok oks
    rw [EvW.ok, oks_map D.int fun _ _ => rfl] <;> rfl
  · have z := E.dp x.2
    unfold eTL D.p PyData.depth at z
    unfold eEv D.p ps D.p PyData.depth PyData.depthAll PyData.depth
    omega
  · have z := E.eq x.2 y.2
    unfold eTL D.p PyData.eqv at z
    unfold eEv D.p ps D.p PyData.eqv PyData.eqvAll
    rw [z]
    unfold PyData.eqv
    obtain ⟨a, l⟩ := x
    obtain ⟨b, m⟩ := y
    by_cases e : a = b
    · subst e
      simp
    · have ne : ¬ a.s = b.s := fun h => e (EvW.inj h)
      simp [e, ne]
theorem al_ev : AlT eEv := fun x y => by
  have z := al_tl al_int x.2 y.2
  unfold eTL D.p alike at z
  unfold eEv D.p ps D.p alike alikeAll
  rw [z]
  unfold alike
  rfl
theorem so_ev (xs : List Ev) : SoT eEv xs := Sortable.tuples (enc := fun x => (eEv x).p) fun b => ⟨.str b.1.s, ps (b.2.map .int), by show (D.tup (.str b.1.s :: b.2.map .int)).p = _; simp only [D.p, ps]⟩
section
variable {X : Cx} {C : Cn} {Γ Γ1 Γ2 : Ctx} {Ts : List T} {a b : Expr} {pos : Pos} {ev : Ev} {k : Int} {v : Int} {kk : Nat} {q : Pos}
end
end RL

namespace LW
section
open PySem PySem.Spec PyProof.Rows L2 RL
set_option maxHeartbeats 0
def top (i : Nat) : Stmt := PySem.Challenge.pw_roomways_k35_whole_events_of_wait_rings.main.body.getD i (.Pass ⟨0, 0, 0, 0⟩)
abbrev s_evens : Stmt := top 1
abbrev s_next_one : Stmt := top 3
abbrev s_own_events : Stmt := top 4
abbrev s_events : Stmt := top 5
abbrev s_l_pot : Stmt := top 7
abbrev s_l_draw : Stmt := top 8
abbrev s_l_pick : Stmt := top 9
abbrev s_l_same : Stmt := top 10
abbrev s_l_mixed : Stmt := top 11
abbrev s_l_way : Stmt := top 12
abbrev s_l_door : Stmt := top 13
abbrev s_l_words : Stmt := top 14
abbrev s_l_house : Stmt := top 15
abbrev s_l_rings_of : Stmt := top 16
abbrev s_l_hand_rings : Stmt := top 17
abbrev s_l_chain : Stmt := top 18
abbrev s_l_chains : Stmt := top 19
abbrev s_l_told_events : Stmt := top 20
abbrev s_l_waiting : Stmt := top 21
abbrev s_law : Stmt := top 22
def d_evens : He.DefD := ⟨("evens", none), "evens", "evens", defArgs s_evens, defBody s_evens, defScope s_evens, [], []⟩
def d_next_one : He.DefD := ⟨("next_one", none), "next_one", "next_one", defArgs s_next_one, defBody s_next_one, defScope s_next_one, [], []⟩
def d_own_events : He.DefD := ⟨("own_events", none), "own_events", "own_events", defArgs s_own_events, defBody s_own_events, defScope s_own_events, [], []⟩
def d_events : He.DefD := ⟨("events", none), "events", "events", defArgs s_events, defBody s_events, defScope s_events, [], []⟩
def d_l_pot : He.DefD := ⟨("_law_pot", none), "_law_pot", "_law_pot", defArgs s_l_pot, defBody s_l_pot, defScope s_l_pot, [], []⟩
def d_l_draw : He.DefD := ⟨("_law_draw", none), "_law_draw", "_law_draw", defArgs s_l_draw, defBody s_l_draw, defScope s_l_draw, [], []⟩
def d_l_pick : He.DefD := ⟨("_law_pick", none), "_law_pick", "_law_pick", defArgs s_l_pick, defBody s_l_pick, defScope s_l_pick, [], []⟩
def d_l_same : He.DefD := ⟨("_law_same", none), "_law_same", "_law_same", defArgs s_l_same, defBody s_l_same, defScope s_l_same, [], []⟩
def d_l_mixed : He.DefD := ⟨("_law_mixed", none), "_law_mixed", "_law_mixed", defArgs s_l_mixed, defBody s_l_mixed, defScope s_l_mixed, [], []⟩
def d_l_way : He.DefD := ⟨("_law_way", none), "_law_way", "_law_way", defArgs s_l_way, defBody s_l_way, defScope s_l_way, [], []⟩
def d_l_door : He.DefD := ⟨("_law_door", none), "_law_door", "_law_door", defArgs s_l_door, defBody s_l_door, defScope s_l_door, [], []⟩
def d_l_words : He.DefD := ⟨("_law_words", none), "_law_words", "_law_words", defArgs s_l_words, defBody s_l_words, defScope s_l_words, [], []⟩
def d_l_house : He.DefD := ⟨("_law_house", none), "_law_house", "_law_house", defArgs s_l_house, defBody s_l_house, defScope s_l_house, [], []⟩
def d_l_rings_of : He.DefD := ⟨("_law_rings_of", none), "_law_rings_of", "_law_rings_of", defArgs s_l_rings_of, defBody s_l_rings_of, defScope s_l_rings_of, [], []⟩
def d_l_hand_rings : He.DefD := ⟨("_law_hand_rings", none), "_law_hand_rings", "_law_hand_rings", defArgs s_l_hand_rings, defBody s_l_hand_rings, defScope s_l_hand_rings, [], []⟩
def d_l_chain : He.DefD := ⟨("_law_chain", none), "_law_chain", "_law_chain", defArgs s_l_chain, defBody s_l_chain, defScope s_l_chain, [], []⟩
def d_l_chains : He.DefD := ⟨("_law_chains", none), "_law_chains", "_law_chains", defArgs s_l_chains, defBody s_l_chains, defScope s_l_chains, [], []⟩
def d_l_told_events : He.DefD := ⟨("_law_told_events", none), "_law_told_events", "_law_told_events", defArgs s_l_told_events, defBody s_l_told_events, defScope s_l_told_events, [], []⟩
def d_l_waiting : He.DefD := ⟨("_law_waiting", none), "_law_waiting", "_law_waiting", defArgs s_l_waiting, defBody s_l_waiting, defScope s_l_waiting, [], []⟩
def d_law : He.DefD := ⟨("law", none), "law", "law", defArgs s_law, defBody s_law, defScope s_law, [], []⟩
def fn : List He.DefD := [d_evens, d_next_one, d_own_events, d_events, d_l_pot, d_l_draw, d_l_pick, d_l_same, d_l_mixed, d_l_way, d_l_door, d_l_words, d_l_house, d_l_rings_of, d_l_hand_rings, d_l_chain, d_l_chains, d_l_told_events, d_l_waiting, d_law]
def fa : List He.Fa := [.glo "evens", .glo "next_one", .glo "own_events", .glo "events", .glo "_law_pot", .glo "_law_draw", .glo "_law_pick", .glo "_law_same", .glo "_law_mixed", .glo "_law_way", .glo "_law_door", .glo "_law_words", .glo "_law_house", .glo "_law_rings_of", .glo "_law_hand_rings", .glo "_law_chain", .glo "_law_chains", .glo "_law_told_events", .glo "_law_waiting", .glo "law", .free "abs", .free "all", .free "bool", .free "enumerate", .free "int", .free "isinstance", .free "len", .free "list", .free "range", .free "repr", .free "sorted", .free "str", .free "tuple", .free "zip"]
def zf : List (PySem.W.Frag → Bool) := []
def zz (K : PySem.W.Frag) : Bool := zf.all fun z => z K
abbrev R : PySem.W.OpenRow := PySem.W.OpenLaw.row PySem.Challenge.rw_roomways_k35_whole_events_of_wait_rings
abbrev hk : PySem.W.Hook := hookZ zz 4 fa fn
def ob (s : PySem.W.SharedT) : Bool × He.AlD := obsZG zz 4 fa fn (HandSHeadRun.getT s)
theorem run (w : World) : HandSHeadRun.RunEq R (PySem.W.view R.prog [22]) hk ob 3000 [("evens" : PySem.Str), ("next_one" : PySem.Str), ("own_events" : PySem.Str), ("events" : PySem.Str), ("_law_pot" : PySem.Str), ("_law_draw" : PySem.Str), ("_law_pick" : PySem.Str), ("_law_same" : PySem.Str), ("_law_mixed" : PySem.Str), ("_law_way" : PySem.Str), ("_law_door" : PySem.Str), ("_law_words" : PySem.Str), ("_law_house" : PySem.Str), ("_law_rings_of" : PySem.Str), ("_law_hand_rings" : PySem.Str), ("_law_chain" : PySem.Str), ("_law_chains" : PySem.Str), ("_law_told_events" : PySem.Str), ("_law_waiting" : PySem.Str)] w := by
  intro os
  kernel_rfl
end
end LW
set_option maxHeartbeats 4000000
namespace LW
open PySem L2 RL
abbrev FnP (K : PySem.W.Frag) (x : Str) (st : Stmt) (f : Addr) (fd : FuncData) : Prop := FunD K x x (defArgs st) (defBody st) (defScope st) [] [] f fd
abbrev tStep := (Str × Int)
instance : DecidableEq tStep := inferInstance
abbrev eStep : tStep → D := (eT2 D.str D.int)
abbrev tWay := (List tStep)
instance : DecidableEq tWay := inferInstance
abbrev eWay : tWay → D := (eTL eStep)
abbrev tRow := (List Str)
instance : DecidableEq tRow := inferInstance
abbrev eRow : tRow → D := (eTL D.str)
abbrev tDoor := ((List tRow) × (List (List Int)))
instance : DecidableEq tDoor := inferInstance
abbrev eDoor : tDoor → D := (eT2 (eTL eRow) (eTL (eTL D.int)))
abbrev tHouse := ((List (Option tDoor)) × (List tWay))
instance : DecidableEq tHouse := inferInstance
abbrev eHouse : tHouse → D := (eT2 (eTL (eO eDoor)) (eTL eWay))
abbrev tPair := (Str × Str)
instance : DecidableEq tPair := inferInstance
abbrev ePair : tPair → D := (eT2 D.str D.str)
/-! ### evens -/
abbrev N_evens : List Str := ["house", "room", "hand", "row", "other", "word"]
theorem sc_evens : FnScope N_evens ["house", "room", "hand"] (defScope s_evens) := ⟨rfl, rfl, rfl, by decide +kernel, rfl, by decide +kernel, by decide +kernel⟩
def evens_m (house : tHouse) (room : Int) (hand : Int) : Option (List Int) := (atI (house.1) room).bind fun p1 => if (p1).isNone = true then (some ([] : (List Int))) else ((atI (house.1) room).bind fun p3 => (p3).bind fun p4 => (atI (p4.1) hand).bind fun p5 => (gd (decide (((numL p5)).length ≤ sizeLine))).bind fun p7 => (lcM (fun (t6 : Unit) (c6 : (Int × Str)) => some ((), if (decide ((c6.2) = ("even" : Str))) = true then some (c6.1) else none)) () (numL p5)).bind fun p8 => some p8.2)
abbrev evensR : List M → M → List M → Prop := fun ms r ms' => ∃ (house : tHouse) (room : Int) (hand : Int) (out : (List Int)), evens_m house room hand = some out ∧ ms = [(.im (eHouse house)), (.im (D.int room)), (.im (D.int hand))] ∧ r = (.im (D.tup ((out).map D.int))) ∧ ms' = []
theorem evens_ok {P : Program} {w : World} {K : PySem.W.Frag} {mg : Str → Option Value} {base : Heap} {f : Addr} {fd : FuncData} (F : FnP K "evens" s_evens f fd) (g_enumerate : mg "enumerate" = none) (g_tuple : mg "tuple" = none) : FnG P w K mg base 1 f fd ["house", "room", "hand"] (spR K 3 [] evensR) := by
  refine fn_body (k := 0) F sc_evens rfl (by decide) (by decide) (by decide) (by rintro ms r ms' ⟨house, room, hand, out, _, rfl, _, rfl⟩; exact ⟨rfl, rfl⟩) ?_
  rintro cdv A outer s H E H0 io pin mio hpin hr hG ms r ms' ⟨house, room, hand, out, h, rfl, rfl, rfl⟩
  refine ⟨[none, none, none, none, none, none], ?_, fun k i m h1 h2 => by simp at h1⟩
  unfold evens_m at h
  refine sl_in ?_
  obtain ⟨p1, hp1, h_⟩ := bsplit h; replace h := h_; clear h_
  rcases Bool.eq_false_or_eq_true ((p1).isNone) with hk2 | hk2
  · replace h := (if_t hk2).symm.trans h
    refine sl_ift (et_isNO (f := eDoor) (fun x z => by cases z) (ee_ixTE (enc := (eO eDoor)) (ee_ixT (ee_var 0 (pv 0)) ee_int rfl) (ee_var 1 (pv 1)) hp1)) hk2 ?_
    replace h := Option.some.inj h
    subst h
    exact sl_exit (s_ret (Γ1 := [some (.im (eHouse house)), some (.im (D.int room)), some (.im (D.int hand)), none, none, none]) (m := (.im (D.tup ((([] : (List Int))).map D.int)))) (ee_tup (ds := List.map D.int ([] : (List Int))) ea_nil (show 0 ≤ 1000 by decide)) trivial) rfl
  · replace h := (if_f hk2).symm.trans h
    refine sl_iff (et_isNO (f := eDoor) (fun x z => by cases z) (ee_ixTE (enc := (eO eDoor)) (ee_ixT (ee_var 0 (pv 0)) ee_int rfl) (ee_var 1 (pv 1)) hp1)) hk2 ?_
    refine sl_pop ?_
    obtain ⟨p3, hp3, h_⟩ := bsplit h; replace h := h_; clear h_
    obtain ⟨p4, hp4, h_⟩ := bsplit h; replace h := h_; clear h_
    obtain ⟨p5, hp5, h_⟩ := bsplit h; replace h := h_; clear h_
    refine sl_cons (Γ1 := [some (.im (eHouse house)), some (.im (D.int room)), some (.im (D.int hand)), some (.im (D.tup ((p5).map D.str))), none, none]) (s_set (Γ1 := [some (.im (eHouse house)), some (.im (D.int room)), some (.im (D.int hand)), none, none, none]) (m := (.im (D.tup ((p5).map D.str)))) 3 sc_evens.nd rfl (by first | exact Or.inl rfl | exact Or.inr rfl) (np1 hpin (by decide)) (ee_ixTE (enc := eRow) (ee_ixT (ee_some (f := eDoor) (ee_ixTE (enc := (eO eDoor)) (ee_ixT (ee_var 0 (pv 0)) ee_int rfl) (ee_var 1 (pv 1)) hp3) hp4) ee_int rfl) (ee_var 2 (pv 2)) hp5) trivial) ?_
    obtain ⟨p7, hp7, h_⟩ := bsplit h; replace h := h_; clear h_
    obtain ⟨p8, hp8, h_⟩ := bsplit h; replace h := h_; clear h_
    replace h := Option.some.inj h
    subst h
    exact sl_exit (s_ret (Γ1 := [some (.im (eHouse house)), some (.im (D.int room)), some (.im (D.int hand)), some (.im (D.tup ((p5).map D.str))), none, none]) (m := (.im (D.tup ((p8.2).map D.int)))) (ee_tupOf (ds := List.map D.int p8.2) g_tuple (ee_lc (s1 := p8.1) (ys := p8.2) (f := (fun (t6 : Unit) (c6 : (Int × Str)) => some ((), if (decide ((c6.2) = ("even" : Str))) = true then some (c6.1) else none))) (enc := (encI D.str)) (eb := D.int) (xs := (numL p5)) (s0 := ()) (hx := (fun v => .hid (.im (.tup ((p5).map D.str))) v)) (cond := (fun _ => True)) (Γs := fun (t6 : Unit) => [some (.im (eHouse house)), some (.im (D.int room)), some (.im (D.int hand)), some (.im (D.tup ((p5).map D.str))), none, none]) (Γt := fun (t6 : Unit) (c6 : (Int × Str)) => [some (.im (eHouse house)), some (.im (D.int room)), some (.im (D.int hand)), some (.im (D.tup ((p5).map D.str))), some (.im (D.int (c6.1))), some (.im (D.str (c6.2)))]) (Γu := fun (t6 : Unit) (c6 : (Int × Str)) => [some (.im (eHouse house)), some (.im (D.int room)), some (.im (D.int hand)), some (.im (D.tup ((p5).map D.str))), some (.im (D.int (c6.1))), some (.im (D.str (c6.2)))]) (tb := (fun t6 c6 => (decide ((c6.2) = ("even" : Str))))) rfl sc_evens.nd (blkOk_by (own := [("other", 4), ("word", 5)]) (N := N_evens) (sc := defScope s_evens) (by decide +kernel))
   { fx := Fix.hid, it := it_wk (Γ1 := [some (.im (eHouse house)), some (.im (D.int room)), some (.im (D.int hand)), some (.im (D.tup ((p5).map D.str))), none, none]) (by rw [← enumD_map]; exact it_enumT g_enumerate (ee_var 3 (pv 3))) ⟨rfl, ⟨rfl, ⟨rfl, ⟨rfl, trivial⟩⟩⟩⟩, cd := fun _ => trivial, gt := fun s H Ca cl fp v q acc t6 c6 => (gt_tup rfl (gts_cons (gt_name 4 sc_evens.nd rfl (by first | exact Or.inl rfl | exact Or.inr rfl) (np1 hpin (by decide)) ⟨trivial, ⟨trivial, trivial⟩⟩ (by decide)) (gts_cons (gt_name 5 sc_evens.nd rfl (by first | exact Or.inl rfl | exact Or.inr rfl) (np1 hpin (by decide)) ⟨trivial, ⟨trivial, trivial⟩⟩ (by decide)) gts_nil))), tt := fun s H Ca cl fp v q acc t6 c6 _ => tests1 (et_eqS (ee_var 5 (pv 5)) ee_str),
        el := fun s H Ca cl fp v q acc t6 c6 st' y hk hf => by
            rw [if_t hk] at hf; obtain ⟨hf1, hf2⟩ := Prod.mk.inj (Option.some.inj hf); subst hf1; replace hf2 := Option.some.inj hf2; subst hf2; exact ee_wk (Γ1 := [some (.im (eHouse house)), some (.im (D.int room)), some (.im (D.int hand)), some (.im (D.tup ((p5).map D.str))), some (.im (D.int (c6.1))), some (.im (D.str (c6.2)))]) (ee_var 4 (pv 4)) ⟨rfl, ⟨rfl, ⟨rfl, ⟨rfl, trivial⟩⟩⟩⟩,
        ft := fun t6 c6 r hk hf => by cases hf; exact ⟨_, if_t hk⟩,
        ff := fun t6 c6 r hk hf => by cases hf; exact ⟨if_f hk, ⟨rfl, ⟨rfl, ⟨rfl, ⟨rfl, trivial⟩⟩⟩⟩⟩, br := fun _ => (bare_cons rfl (bare_cons rfl bare_nil)), fr := (freeJ_cons trivial (freeJ_cons trivial freeJ_nil)), fh := fun v => (freeJ_cons ⟨trivial, trivial⟩ (freeJ_cons ⟨trivial, trivial⟩ freeJ_nil)), pn := pnJ hpin (by decide), ln := (gd_d hp7) }
   hp8) .own) trivial) rfl
/-! ### next_one -/
abbrev N_next_one : List Str := ["ring", "hand"]
theorem sc_next_one : FnScope N_next_one ["ring", "hand"] (defScope s_next_one) := ⟨rfl, rfl, rfl, by decide +kernel, rfl, by decide +kernel, by decide +kernel⟩
def next_one_m (ring : (List Int)) (hand : Int) : Option Int := (gd (decide ((ring).length + ((cutL ring none (some 1))).length ≤ sizeLine))).bind fun p9 => (idxE ring hand).bind fun p10 => (atI (ring ++ (cutL ring none (some 1))) (p10 + 1)).bind fun p11 => some p11
abbrev next_oneR : List M → M → List M → Prop := fun ms r ms' => ∃ (ring : (List Int)) (hand : Int) (out : Int), next_one_m ring hand = some out ∧ ms = [(.im (D.tup ((ring).map D.int))), (.im (D.int hand))] ∧ r = (.im (D.int out)) ∧ ms' = []
theorem next_one_ok {P : Program} {w : World} {K : PySem.W.Frag} {mg : Str → Option Value} {base : Heap} {f : Addr} {fd : FuncData} (F : FnP K "next_one" s_next_one f fd) : FnG P w K mg base 1 f fd ["ring", "hand"] (spR K 2 [] next_oneR) := by
  refine fn_body (k := 0) F sc_next_one rfl (by decide) (by decide) (by decide) (by rintro ms r ms' ⟨ring, hand, out, _, rfl, _, rfl⟩; exact ⟨rfl, rfl⟩) ?_
  rintro cdv A outer s H E H0 io pin mio hpin hr hG ms r ms' ⟨ring, hand, out, h, rfl, rfl, rfl⟩
  refine ⟨[none, none], ?_, fun k i m h1 h2 => by simp at h1⟩
  unfold next_one_m at h
  refine sl_in ?_
  obtain ⟨p9, hp9, h_⟩ := bsplit h; replace h := h_; clear h_
  obtain ⟨p10, hp10, h_⟩ := bsplit h; replace h := h_; clear h_
  obtain ⟨p11, hp11, h_⟩ := bsplit h; replace h := h_; clear h_
  replace h := Option.some.inj h
  subst h
  exact sl_exit (s_ret (Γ1 := [some (.im (D.tup ((ring).map D.int))), some (.im (D.int hand))]) (m := (.im (D.int p11))) (ee_ixTE (enc := D.int) (ee_catTE (enc := D.int) (xs := ring) (ys := (cutL ring none (some 1))) (ee_var 0 (pv 0)) (ee_slTE (enc := D.int) (ee_var 0 (pv 0)) ep_none (ep_some ee_int)) (gd_d hp9)) (ee_add (ee_idxT (f := D.int) (xs := ring) (x := hand) (k := 5) hr.units eqt_int (by decide) (ee_var 0 (pv 0)) (ee_var 1 (pv 1)) hp10) ee_int) hp11) trivial) rfl
/-! ### own_events -/
abbrev N_own_events : List Str := ["house", "room", "ring", "hand", "found", "order", "ahead", "other"]
theorem sc_own_events : FnScope N_own_events ["house", "room", "ring", "hand"] (defScope s_own_events) := ⟨rfl, rfl, rfl, by decide +kernel, rfl, by decide +kernel, by decide +kernel⟩
def own_events_m (house : tHouse) (room : Int) (ring : (List Int)) (hand : Int) : Option (List Ev) := (evens_m house room hand).bind fun p17 => (gd (decide (((p17)).length ≤ sizeLine))).bind fun p18 => (lcM (fun (t16 : Unit) (c16 : Int) => some ((), if (decide (c16 ∈ ring)) = true then some ((.hand, [hand, c16]) : Ev) else none)) () (p17)).bind fun p19 => (gd (decide ((([((.raised, [hand]) : Ev)] : (List Ev))).length + (p19.2).length ≤ sizeLine))).bind fun p20 => (atI (house.1) room).bind fun p21 => (p21).bind fun p22 => (atI (p22.2) hand).bind fun p23 => (next_one_m ring hand).bind fun p24 => (idxE p23 p24).bind fun p25 => (gd (decide ((((cutL p23 none (some p25)))).length ≤ sizeLine))).bind fun p27 => (lcM (fun (t26 : Unit) (c26 : Int) => some ((), if (decide (c26 ∈ ring)) = true then some ((.look, [hand, c26]) : Ev) else none)) () ((cutL p23 none (some p25)))).bind fun p28 => (gd (decide (((([((.raised, [hand]) : Ev)] : (List Ev)) ++ p19.2)).length + (p28.2).length ≤ sizeLine))).bind fun p29 => some ((([((.raised, [hand]) : Ev)] : (List Ev)) ++ p19.2) ++ p28.2)
abbrev own_eventsR : List M → M → List M → Prop := fun ms r ms' => ∃ (house : tHouse) (room : Int) (ring : (List Int)) (hand : Int) (out : (List Ev)), own_events_m house room ring hand = some out ∧ ms = [(.im (eHouse house)), (.im (D.int room)), (.im (D.tup ((ring).map D.int))), (.im (D.int hand))] ∧ r = (.im (D.lst ((out).map eEv))) ∧ ms' = []
theorem own_events_ok {P : Program} {w : World} {K : PySem.W.Frag} {mg : Str → Option Value} {base : Heap} {f : Addr} {fd : FuncData} (F : FnP K "own_events" s_own_events f fd) {f_evens : Addr} {fd_evens : FuncData} (G_evens : FnG P w K mg base 1 f_evens fd_evens ["house", "room", "hand"] (spR K 3 [] evensR)) (F_evens : FnP K "evens" s_evens f_evens fd_evens) (g_evens : mg "evens" = some (.ref f_evens)) {f_next_one : Addr} {fd_next_one : FuncData} (G_next_one : FnG P w K mg base 1 f_next_one fd_next_one ["ring", "hand"] (spR K 2 [] next_oneR)) (F_next_one : FnP K "next_one" s_next_one f_next_one fd_next_one) (g_next_one : mg "next_one" = some (.ref f_next_one)) : FnG P w K mg base 2 f fd ["house", "room", "ring", "hand"] (spR K 4 [] own_eventsR) := by
  refine fn_body (k := 1) F sc_own_events rfl (by decide) (by decide) (by decide) (by rintro ms r ms' ⟨house, room, ring, hand, out, _, rfl, _, rfl⟩; exact ⟨rfl, rfl⟩) ?_
  rintro cdv A outer s H E H0 io pin mio hpin hr hG ms r ms' ⟨house, room, ring, hand, out, h, rfl, rfl, rfl⟩
  refine ⟨[none, none, none, none, none, none, none, none], ?_, fun k i m h1 h2 => by simp at h1⟩
  unfold own_events_m at h
  refine sl_in ?_
  have kp_evens := F_evens.kp
  have b_evens : Binds K fd_evens ["house", "room", "hand"] [] := F_evens.bindsN fun _ _ _ _ _ _ us hl => match us, hl with | [_, _, _], _ => rfl
  have kp_next_one := F_next_one.kp
  have b_next_one : Binds K fd_next_one ["ring", "hand"] [] := F_next_one.bindsN fun _ _ _ _ _ _ us hl => match us, hl with | [_, _], _ => rfl
  refine sl_cons (Γ1 := [some (.im (eHouse house)), some (.im (D.int room)), some (.im (D.tup ((ring).map D.int))), some (.im (D.int hand)), some (.li ((([((.raised, [hand]) : Ev)] : (List Ev))).map eEv)), none, none, none]) (s_set (Γ1 := [some (.im (eHouse house)), some (.im (D.int room)), some (.im (D.tup ((ring).map D.int))), some (.im (D.int hand)), none, none, none, none]) (m := (.li ((([((.raised, [hand]) : Ev)] : (List Ev))).map eEv))) 4 sc_own_events.nd rfl (by first | exact Or.inl rfl | exact Or.inr rfl) (np1 hpin (by decide)) (ee_lst (ds := [(eEv ((.raised, [hand]) : Ev))]) (ea_cons (ee_to (d2 := eEv ((.raised, [hand]) : Ev)) (ee_tup (ds := [D.str "raise", D.int hand]) (ea_cons ee_str (ea_cons (ee_var 3 (pv 3)) ea_nil)) (show 2 ≤ 1000 by decide)) rfl) ea_nil) (show 1 ≤ 1000 by decide)) trivial) ?_
  obtain ⟨p17, hp17, h_⟩ := bsplit h; replace h := h_; clear h_
  obtain ⟨p18, hp18, h_⟩ := bsplit h; replace h := h_; clear h_
  obtain ⟨p19, hp19, h_⟩ := bsplit h; replace h := h_; clear h_
  obtain ⟨p20, hp20, h_⟩ := bsplit h; replace h := h_; clear h_
  refine sl_cons (Γ1 := [some (.im (eHouse house)), some (.im (D.int room)), some (.im (D.tup ((ring).map D.int))), some (.im (D.int hand)), some (.li (((([((.raised, [hand]) : Ev)] : (List Ev)) ++ p19.2)).map eEv)), none, none, none]) (s_expr (t := .own (.im D.non)) (ee_extendE (Γ1 := [some (.im (eHouse house)), some (.im (D.int room)), some (.im (D.tup ((ring).map D.int))), some (.im (D.int hand)), some (.li ((([((.raised, [hand]) : Ev)] : (List Ev))).map eEv)), none, none, none]) (ys := p19.2) (enc := eEv) 4 (pv 4) rfl (ee_lc (s1 := p19.1) (ys := p19.2) (f := (fun (t16 : Unit) (c16 : Int) => some ((), if (decide (c16 ∈ ring)) = true then some ((.hand, [hand, c16]) : Ev) else none))) (enc := D.int) (eb := eEv) (xs := (p17)) (s0 := ()) (hx := (fun v => .hid (.im (.tup ((p17).map D.int))) v)) (cond := (fun _ => True)) (Γs := fun (t16 : Unit) => [some (.im (eHouse house)), some (.im (D.int room)), some (.im (D.tup ((ring).map D.int))), some (.im (D.int hand)), some (.li ((([((.raised, [hand]) : Ev)] : (List Ev))).map eEv)), none, none, none]) (Γt := fun (t16 : Unit) (c16 : Int) => [some (.im (eHouse house)), some (.im (D.int room)), some (.im (D.tup ((ring).map D.int))), some (.im (D.int hand)), some (.li ((([((.raised, [hand]) : Ev)] : (List Ev))).map eEv)), none, none, some (.im (D.int c16))]) (Γu := fun (t16 : Unit) (c16 : Int) => [some (.im (eHouse house)), some (.im (D.int room)), some (.im (D.tup ((ring).map D.int))), some (.im (D.int hand)), some (.li ((([((.raised, [hand]) : Ev)] : (List Ev))).map eEv)), none, none, some (.im (D.int c16))]) (tb := (fun t16 c16 => (decide (c16 ∈ ring)))) rfl sc_own_events.nd (blkOk_by (own := [("other", 7)]) (N := N_own_events) (sc := defScope s_own_events) (by decide +kernel))
   { fx := Fix.hid, it := it_wk (Γ1 := [some (.im (eHouse house)), some (.im (D.int room)), some (.im (D.tup ((ring).map D.int))), some (.im (D.int hand)), some (.li ((([((.raised, [hand]) : Ev)] : (List Ev))).map eEv)), none, none, none]) (it_tup (ee_callX (k := 1) (G_evens.mono (by decide)) hr hG g_evens kp_evens b_evens (ea_cons (ee_var 0 (pv 0)) (ea_cons (ee_var 1 (pv 1)) (ea_cons (ee_var 3 (pv 3)) ea_nil))) ⟨house, room, hand, p17, hp17, rfl, rfl, rfl⟩)) ⟨rfl, ⟨rfl, ⟨rfl, ⟨rfl, ⟨rfl, trivial⟩⟩⟩⟩⟩, cd := fun _ => trivial, gt := fun s H Ca cl fp v q acc t16 c16 => (gt_name 7 sc_own_events.nd rfl (by first | exact Or.inl rfl | exact Or.inr rfl) (np1 hpin (by decide)) ⟨(show (4 : Nat) ≠ 7 by decide), ⟨trivial, ⟨trivial, trivial⟩⟩⟩ (by decide)), tt := fun s H Ca cl fp v q acc t16 c16 _ => tests1 (et_inI (ee_var 7 (pv 7)) (ee_var 2 (pv 2)) .t),
        el := fun s H Ca cl fp v q acc t16 c16 st' y hk hf => by
            rw [if_t hk] at hf; obtain ⟨hf1, hf2⟩ := Prod.mk.inj (Option.some.inj hf); subst hf1; replace hf2 := Option.some.inj hf2; subst hf2; exact ee_wk (Γ1 := [some (.im (eHouse house)), some (.im (D.int room)), some (.im (D.tup ((ring).map D.int))), some (.im (D.int hand)), some (.li ((([((.raised, [hand]) : Ev)] : (List Ev))).map eEv)), none, none, some (.im (D.int c16))]) (ee_to (d2 := eEv ((.hand, [hand, c16]) : Ev)) (ee_tup (ds := [D.str "hand", D.int hand, D.int c16]) (ea_cons ee_str (ea_cons (ee_var 3 (pv 3)) (ea_cons (ee_var 7 (pv 7)) ea_nil))) (show 3 ≤ 1000 by decide)) rfl) ⟨rfl, ⟨rfl, ⟨rfl, ⟨rfl, ⟨rfl, trivial⟩⟩⟩⟩⟩,
        ft := fun t16 c16 r hk hf => by cases hf; exact ⟨_, if_t hk⟩,
        ff := fun t16 c16 r hk hf => by cases hf; exact ⟨if_f hk, ⟨rfl, ⟨rfl, ⟨rfl, ⟨rfl, ⟨rfl, trivial⟩⟩⟩⟩⟩⟩, br := fun _ => (bare_cons rfl bare_nil), fr := (freeJ_cons ⟨(show (4 : Nat) ≠ 7 by decide), trivial⟩ freeJ_nil), fh := fun v => (freeJ_cons ⟨trivial, trivial⟩ freeJ_nil), pn := pnJ hpin (by decide), ln := (gd_d hp18) }
   hp19) rfl .own (gd_d hp20))) ?_
  obtain ⟨p21, hp21, h_⟩ := bsplit h; replace h := h_; clear h_
  obtain ⟨p22, hp22, h_⟩ := bsplit h; replace h := h_; clear h_
  obtain ⟨p23, hp23, h_⟩ := bsplit h; replace h := h_; clear h_
  refine sl_cons (Γ1 := [some (.im (eHouse house)), some (.im (D.int room)), some (.im (D.tup ((ring).map D.int))), some (.im (D.int hand)), some (.li (((([((.raised, [hand]) : Ev)] : (List Ev)) ++ p19.2)).map eEv)), some (.im (D.tup ((p23).map D.int))), none, none]) (s_set (Γ1 := [some (.im (eHouse house)), some (.im (D.int room)), some (.im (D.tup ((ring).map D.int))), some (.im (D.int hand)), some (.li (((([((.raised, [hand]) : Ev)] : (List Ev)) ++ p19.2)).map eEv)), none, none, none]) (m := (.im (D.tup ((p23).map D.int)))) 5 sc_own_events.nd rfl (by first | exact Or.inl rfl | exact Or.inr rfl) (np1 hpin (by decide)) (ee_ixTE (enc := (eTL D.int)) (ee_ixT (ee_some (f := eDoor) (ee_ixTE (enc := (eO eDoor)) (ee_ixT (ee_var 0 (pv 0)) ee_int rfl) (ee_var 1 (pv 1)) hp21) hp22) ee_int rfl) (ee_var 3 (pv 3)) hp23) trivial) ?_
  obtain ⟨p24, hp24, h_⟩ := bsplit h; replace h := h_; clear h_
  obtain ⟨p25, hp25, h_⟩ := bsplit h; replace h := h_; clear h_
  refine sl_cons (Γ1 := [some (.im (eHouse house)), some (.im (D.int room)), some (.im (D.tup ((ring).map D.int))), some (.im (D.int hand)), some (.li (((([((.raised, [hand]) : Ev)] : (List Ev)) ++ p19.2)).map eEv)), some (.im (D.tup ((p23).map D.int))), some (.im (D.tup (((cutL p23 none (some p25))).map D.int))), none]) (s_set (Γ1 := [some (.im (eHouse house)), some (.im (D.int room)), some (.im (D.tup ((ring).map D.int))), some (.im (D.int hand)), some (.li (((([((.raised, [hand]) : Ev)] : (List Ev)) ++ p19.2)).map eEv)), some (.im (D.tup ((p23).map D.int))), none, none]) (m := (.im (D.tup (((cutL p23 none (some p25))).map D.int)))) 6 sc_own_events.nd rfl (by first | exact Or.inl rfl | exact Or.inr rfl) (np1 hpin (by decide)) (ee_slTE (enc := D.int) (ee_var 5 (pv 5)) ep_none (ep_some (ee_idxT (f := D.int) (xs := p23) (x := p24) (k := 5) hr.units eqt_int (by decide) (ee_var 5 (pv 5)) (ee_callX (k := 1) (G_next_one.mono (by decide)) hr hG g_next_one kp_next_one b_next_one (ea_cons (ee_var 2 (pv 2)) (ea_cons (ee_var 3 (pv 3)) ea_nil)) ⟨ring, hand, p24, hp24, rfl, rfl, rfl⟩) hp25))) trivial) ?_
  obtain ⟨p27, hp27, h_⟩ := bsplit h; replace h := h_; clear h_
  obtain ⟨p28, hp28, h_⟩ := bsplit h; replace h := h_; clear h_
  obtain ⟨p29, hp29, h_⟩ := bsplit h; replace h := h_; clear h_
  replace h := Option.some.inj h
  subst h
  exact sl_exit (s_ret (Γ1 := [some (.im (eHouse house)), some (.im (D.int room)), some (.im (D.tup ((ring).map D.int))), some (.im (D.int hand)), some (.li (((([((.raised, [hand]) : Ev)] : (List Ev)) ++ p19.2)).map eEv)), some (.im (D.tup ((p23).map D.int))), some (.im (D.tup (((cutL p23 none (some p25))).map D.int))), none]) (m := (.im (D.lst ((((([((.raised, [hand]) : Ev)] : (List Ev)) ++ p19.2) ++ p28.2)).map eEv)))) (ee_lock (ee_catE (enc := eEv) (ee_al 4 (pv 4)) (ee_lc (s1 := p28.1) (ys := p28.2) (f := (fun (t26 : Unit) (c26 : Int) => some ((), if (decide (c26 ∈ ring)) = true then some ((.look, [hand, c26]) : Ev) else none))) (enc := D.int) (eb := eEv) (xs := ((cutL p23 none (some p25)))) (s0 := ()) (hx := (fun v => .hid (.im (.tup (((cutL p23 none (some p25))).map D.int))) v)) (cond := (fun _ => True)) (Γs := fun (t26 : Unit) => [some (.im (eHouse house)), some (.im (D.int room)), some (.im (D.tup ((ring).map D.int))), some (.im (D.int hand)), some (.li (((([((.raised, [hand]) : Ev)] : (List Ev)) ++ p19.2)).map eEv)), some (.im (D.tup ((p23).map D.int))), some (.im (D.tup (((cutL p23 none (some p25))).map D.int))), none]) (Γt := fun (t26 : Unit) (c26 : Int) => [some (.im (eHouse house)), some (.im (D.int room)), some (.im (D.tup ((ring).map D.int))), some (.im (D.int hand)), some (.li (((([((.raised, [hand]) : Ev)] : (List Ev)) ++ p19.2)).map eEv)), some (.im (D.tup ((p23).map D.int))), some (.im (D.tup (((cutL p23 none (some p25))).map D.int))), some (.im (D.int c26))]) (Γu := fun (t26 : Unit) (c26 : Int) => [some (.im (eHouse house)), some (.im (D.int room)), some (.im (D.tup ((ring).map D.int))), some (.im (D.int hand)), some (.li (((([((.raised, [hand]) : Ev)] : (List Ev)) ++ p19.2)).map eEv)), some (.im (D.tup ((p23).map D.int))), some (.im (D.tup (((cutL p23 none (some p25))).map D.int))), some (.im (D.int c26))]) (tb := (fun t26 c26 => (decide (c26 ∈ ring)))) rfl sc_own_events.nd (blkOk_by (own := [("other", 7)]) (N := N_own_events) (sc := defScope s_own_events) (by decide +kernel))
   { fx := Fix.hid, it := it_wk (Γ1 := [some (.im (eHouse house)), some (.im (D.int room)), some (.im (D.tup ((ring).map D.int))), some (.im (D.int hand)), some (.li (((([((.raised, [hand]) : Ev)] : (List Ev)) ++ p19.2)).map eEv)), some (.im (D.tup ((p23).map D.int))), some (.im (D.tup (((cutL p23 none (some p25))).map D.int))), none]) (it_tup (ee_var 6 (pv 6))) ⟨rfl, ⟨rfl, ⟨rfl, ⟨rfl, ⟨rfl, ⟨rfl, ⟨rfl, trivial⟩⟩⟩⟩⟩⟩⟩, cd := fun _ => trivial, gt := fun s H Ca cl fp v q acc t26 c26 => (gt_name 7 sc_own_events.nd rfl (by first | exact Or.inl rfl | exact Or.inr rfl) (np1 hpin (by decide)) ⟨(show (4 : Nat) ≠ 7 by decide), ⟨trivial, ⟨trivial, trivial⟩⟩⟩ (by decide)), tt := fun s H Ca cl fp v q acc t26 c26 _ => tests1 (et_inI (ee_var 7 (pv 7)) (ee_var 2 (pv 2)) .t),
        el := fun s H Ca cl fp v q acc t26 c26 st' y hk hf => by
            rw [if_t hk] at hf; obtain ⟨hf1, hf2⟩ := Prod.mk.inj (Option.some.inj hf); subst hf1; replace hf2 := Option.some.inj hf2; subst hf2; exact ee_wk (Γ1 := [some (.im (eHouse house)), some (.im (D.int room)), some (.im (D.tup ((ring).map D.int))), some (.im (D.int hand)), some (.li (((([((.raised, [hand]) : Ev)] : (List Ev)) ++ p19.2)).map eEv)), some (.im (D.tup ((p23).map D.int))), some (.im (D.tup (((cutL p23 none (some p25))).map D.int))), some (.im (D.int c26))]) (ee_to (d2 := eEv ((.look, [hand, c26]) : Ev)) (ee_tup (ds := [D.str "look", D.int hand, D.int c26]) (ea_cons ee_str (ea_cons (ee_var 3 (pv 3)) (ea_cons (ee_var 7 (pv 7)) ea_nil))) (show 3 ≤ 1000 by decide)) rfl) ⟨rfl, ⟨rfl, ⟨rfl, ⟨rfl, ⟨rfl, ⟨rfl, ⟨rfl, trivial⟩⟩⟩⟩⟩⟩⟩,
        ft := fun t26 c26 r hk hf => by cases hf; exact ⟨_, if_t hk⟩,
        ff := fun t26 c26 r hk hf => by cases hf; exact ⟨if_f hk, ⟨rfl, ⟨rfl, ⟨rfl, ⟨rfl, ⟨rfl, ⟨rfl, ⟨rfl, trivial⟩⟩⟩⟩⟩⟩⟩⟩, br := fun _ => (bare_cons rfl bare_nil), fr := (freeJ_cons ⟨(show (4 : Nat) ≠ 7 by decide), trivial⟩ freeJ_nil), fh := fun v => (freeJ_cons ⟨trivial, trivial⟩ freeJ_nil), pn := pnJ hpin (by decide), ln := (gd_d hp27) }
   hp28) (.al rfl) .own (gd_d hp29))) trivial) rfl
/-! ### events -/
abbrev N_events : List Str := ["house", "room", "ring", "found", "hand"]
theorem sc_events : FnScope N_events ["house", "room", "ring"] (defScope s_events) := ⟨rfl, rfl, rfl, by decide +kernel, rfl, by decide +kernel, by decide +kernel⟩
def events_L1 (house : tHouse) (room : Int) (ring : (List Int)) (s : (List Ev)) (x : Int) : Option (List Ev) := (own_events_m house room ring x).bind fun p32 => (gd (decide ((s).length + (p32).length ≤ sizeLine))).bind fun p33 => some (s ++ p32)
def events_m (house : tHouse) (room : Int) (ring : (List Int)) : Option (List Ev) := (forS (events_L1 house room ring) ([] : (List Ev)) (ring)).bind fun p37 => some (srtE eEv p37)
abbrev eventsR : List M → M → List M → Prop := fun ms r ms' => ∃ (house : tHouse) (room : Int) (ring : (List Int)) (out : (List Ev)), events_m house room ring = some out ∧ ms = [(.im (eHouse house)), (.im (D.int room)), (.im (D.tup ((ring).map D.int)))] ∧ r = (.im (D.tup ((out).map eEv))) ∧ ms' = []
theorem events_ok {P : Program} {w : World} {K : PySem.W.Frag} {mg : Str → Option Value} {base : Heap} {f : Addr} {fd : FuncData} (F : FnP K "events" s_events f fd) {f_own_events : Addr} {fd_own_events : FuncData} (G_own_events : FnG P w K mg base 2 f_own_events fd_own_events ["house", "room", "ring", "hand"] (spR K 4 [] own_eventsR)) (F_own_events : FnP K "own_events" s_own_events f_own_events fd_own_events) (g_own_events : mg "own_events" = some (.ref f_own_events)) (g_sorted : mg "sorted" = none) (g_tuple : mg "tuple" = none) : FnG P w K mg base 3 f fd ["house", "room", "ring"] (spR K 3 [] eventsR) := by
  refine fn_body (k := 2) F sc_events rfl (by decide) (by decide) (by decide) (by rintro ms r ms' ⟨house, room, ring, out, _, rfl, _, rfl⟩; exact ⟨rfl, rfl⟩) ?_
  rintro cdv A outer s H E H0 io pin mio hpin hr hG ms r ms' ⟨house, room, ring, out, h, rfl, rfl, rfl⟩
  refine ⟨[none, none, none, none, none], ?_, fun k i m h1 h2 => by simp at h1⟩
  unfold events_m at h
  refine sl_in ?_
  have kp_own_events := F_own_events.kp
  have b_own_events : Binds K fd_own_events ["house", "room", "ring", "hand"] [] := F_own_events.bindsN fun _ _ _ _ _ _ us hl => match us, hl with | [_, _, _, _], _ => rfl
  refine sl_cons (Γ1 := [some (.im (eHouse house)), some (.im (D.int room)), some (.im (D.tup ((ring).map D.int))), some (.li ((([] : (List Ev))).map eEv)), none]) (s_set (Γ1 := [some (.im (eHouse house)), some (.im (D.int room)), some (.im (D.tup ((ring).map D.int))), none, none]) (m := (.li ((([] : (List Ev))).map eEv))) 3 sc_events.nd rfl (by first | exact Or.inl rfl | exact Or.inr rfl) (np1 hpin (by decide)) (ee_lst (ds := []) ea_nil (show 0 ≤ 1000 by decide)) trivial) ?_
  obtain ⟨p37, hp37, h_⟩ := bsplit h; replace h := h_; clear h_
  refine sl_cons (Γ1 := [some (.im (eHouse house)), some (.im (D.int room)), some (.im (D.tup ((ring).map D.int))), some (.li ((p37).map eEv)), none]) (s_for (J := [4]) (enc := D.int) (xs := (ring)) (hx := (fun v => .hid (.im (.tup ((ring).map D.int))) v)) (cond := (fun _ => True)) (f := (events_L1 house room ring)) (s0 := ([] : (List Ev))) (Γs := fun (s30 : (List Ev)) => [some (.im (eHouse house)), some (.im (D.int room)), some (.im (D.tup ((ring).map D.int))), some (.li ((s30).map eEv)), none]) (Γt := fun (s30 : (List Ev)) (x30 : Int) => [some (.im (eHouse house)), some (.im (D.int room)), some (.im (D.tup ((ring).map D.int))), some (.li ((s30).map eEv)), some (.im (D.int x30))]) rfl Fix.hid (it_wk (Γ1 := [some (.im (eHouse house)), some (.im (D.int room)), some (.im (D.tup ((ring).map D.int))), some (.li ((([] : (List Ev))).map eEv)), none]) (it_tup (ee_var 2 (pv 2))) ⟨rfl, ⟨rfl, ⟨rfl, ⟨rfl, trivial⟩⟩⟩⟩) (fun _ => trivial) ?_ ?_ hp37) ?_
  · intro v30 s30 x30
    exact (gt_name 4 sc_events.nd rfl (by first | exact Or.inl rfl | exact Or.inr rfl) (np1 hpin (by decide)) ⟨trivial, trivial⟩ (by decide))
  · intro v30 s30 x30 s_30 hf30
    unfold events_L1 at hf30
    refine sl_in ?_
    obtain ⟨p35, hp35, hf30_⟩ := bsplit hf30; replace hf30 := hf30_; clear hf30_
    obtain ⟨p36, hp36, hf30_⟩ := bsplit hf30; replace hf30 := hf30_; clear hf30_
    refine sl_cons (Γ1 := [some (.im (eHouse house)), some (.im (D.int room)), some (.im (D.tup ((ring).map D.int))), some (.li (((s30 ++ p35)).map eEv)), some (.im (D.int x30))]) (s_expr (t := .own (.im D.non)) (ee_extendQ (Γ1 := [some (.im (eHouse house)), some (.im (D.int room)), some (.im (D.tup ((ring).map D.int))), some (.li ((s30).map eEv)), some (.im (D.int x30))]) (ys := p35) (enc := eEv) 3 (pv 3) rfl (ee_callX (k := 2) (G_own_events.mono (by decide)) hr hG g_own_events kp_own_events b_own_events (ea_cons (ee_var 0 (pv 0)) (ea_cons (ee_var 1 (pv 1)) (ea_cons (ee_var 2 (pv 2)) (ea_cons (ee_var 4 (pv 4)) ea_nil)))) ⟨house, room, ring, x30, p35, hp35, rfl, rfl, rfl⟩) rfl (.l .fz) (gd_d hp36))) ?_
    replace hf30 := Option.some.inj hf30
    subst hf30
    exact sl_end ⟨rfl, ⟨rfl, ⟨rfl, ⟨rfl, trivial⟩⟩⟩⟩
  replace h := Option.some.inj h
  subst h
  exact sl_exit (s_ret (Γ1 := [some (.im (eHouse house)), some (.im (D.int room)), some (.im (D.tup ((ring).map D.int))), some (.li ((p37).map eEv)), none]) (m := (.im (D.tup (((srtE eEv p37)).map eEv)))) (ee_tupOf (ds := List.map eEv (srtE eEv p37)) g_tuple (ee_sortedE (f := eEv) (k := 5) hr.units g_sorted eqt_ev (by decide) al_ev (so_ev _) (ee_al 3 (pv 3)) (.l (.al rfl))) .own) trivial) rfl
/-! ### law_pot -/
abbrev N_l_pot : List Str := ["script", "stirred", "cell"]
theorem sc_l_pot : FnScope N_l_pot ["script"] (defScope s_l_pot) := ⟨rfl, rfl, rfl, by decide +kernel, rfl, by decide +kernel, by decide +kernel⟩
def l_pot_L1  (s : Int) (x : Int) : Option Int := some ((((s * 48271) + (13 * x)) + 5) % 2147483629)
def l_pot_m (script : (List Int)) : Option Pot := (forS l_pot_L1 (15910 + (83 * (((cutL script none (some 60))).length : Int))) ((cutL script none (some 60)))).bind fun p39 => (gd (decide ((((cutL script none (some 60)))).length ≤ sizeLine))).bind fun p41 => (lcM (fun (t40 : Unit) (c40 : Int) => some ((), if (decide ((10 ^ 12) < (if c40 < 0 then -c40 else c40))) = true then some (if c40 < 0 then -c40 else c40) else none)) () ((cutL script none (some 60)))).bind fun p42 => some (Pot.mk (p42.2).reverse p39 0)
abbrev l_potR : List M → M → List M → Prop := fun ms r ms' => ∃ (script : (List Int)) (out : Pot), l_pot_m script = some out ∧ ms = [(.im (D.lst ((script).map D.int)))] ∧ r = (Pot.m nmPot out) ∧ ms' = []
theorem l_pot_ok {P : Program} {w : World} {K : PySem.W.Frag} {mg : Str → Option Value} {base : Heap} {f : Addr} {fd : FuncData} (F : FnP K "_law_pot" s_l_pot f fd) (g_abs : mg "abs" = none) (g_int : mg "int" = none) (g_len : mg "len" = none) : FnG P w K mg base 1 f fd ["script"] (spR K 1 [] l_potR) := by
  refine fn_body (k := 0) F sc_l_pot rfl (by decide) (by decide) (by decide) (by rintro ms r ms' ⟨script, out, _, rfl, _, rfl⟩; exact ⟨rfl, rfl⟩) ?_
  rintro cdv A outer s H E H0 io pin mio hpin hr hG ms r ms' ⟨script, out, h, rfl, rfl, rfl⟩
  refine ⟨[none, none, none], ?_, fun k i m h1 h2 => by simp at h1⟩
  unfold l_pot_m at h
  refine sl_in ?_
  refine sl_cons (Γ1 := [some (.im (D.lst ((script).map D.int))), some (.im (D.int (15910 + (83 * (((cutL script none (some 60))).length : Int))))), none]) (s_set (Γ1 := [some (.im (D.lst ((script).map D.int))), none, none]) (m := (.im (D.int (15910 + (83 * (((cutL script none (some 60))).length : Int)))))) 1 sc_l_pot.nd rfl (by first | exact Or.inl rfl | exact Or.inr rfl) (np1 hpin (by decide)) (ee_add ee_int (ee_mul (.inl ⟨by decide, by decide⟩) ee_int (ee_lenLE (enc := D.int) g_len (ee_slLE (enc := D.int) (ee_var 0 (pv 0)) ep_none (ep_some ee_int) .fz) .own))) trivial) ?_
  obtain ⟨p39, hp39, h_⟩ := bsplit h; replace h := h_; clear h_
  refine sl_cons (Γ1 := [some (.im (D.lst ((script).map D.int))), some (.im (D.int p39)), none]) (s_for (J := [2]) (enc := D.int) (xs := ((cutL script none (some 60)))) (hx := (fun v => .hid (.li (((cutL script none (some 60))).map D.int)) v)) (cond := (fun _ => True)) (f := l_pot_L1) (s0 := (15910 + (83 * (((cutL script none (some 60))).length : Int)))) (Γs := fun (s38 : Int) => [some (.im (D.lst ((script).map D.int))), some (.im (D.int s38)), none]) (Γt := fun (s38 : Int) (x38 : Int) => [some (.im (D.lst ((script).map D.int))), some (.im (D.int s38)), some (.im (D.int x38))]) rfl Fix.hid (it_wk (Γ1 := [some (.im (D.lst ((script).map D.int))), some (.im (D.int (15910 + (83 * (((cutL script none (some 60))).length : Int))))), none]) (it_lstH (ee_slLE (enc := D.int) (ee_var 0 (pv 0)) ep_none (ep_some ee_int) .fz)) ⟨rfl, ⟨rfl, trivial⟩⟩) (fun _ => trivial) ?_ ?_ hp39) ?_
  · intro v38 s38 x38
    exact (gt_name 2 sc_l_pot.nd rfl (by first | exact Or.inl rfl | exact Or.inr rfl) (np1 hpin (by decide)) ⟨trivial, trivial⟩ (by decide))
  · intro v38 s38 x38 s_38 hf38
    unfold l_pot_L1 at hf38
    refine sl_in ?_
    refine sl_cons (Γ1 := [some (.im (D.lst ((script).map D.int))), some (.im (D.int ((((s38 * 48271) + (13 * x38)) + 5) % 2147483629))), some (.im (D.int x38))]) (s_set (Γ1 := [some (.im (D.lst ((script).map D.int))), some (.im (D.int s38)), some (.im (D.int x38))]) (m := (.im (D.int ((((s38 * 48271) + (13 * x38)) + 5) % 2147483629)))) 1 sc_l_pot.nd rfl (by first | exact Or.inl rfl | exact Or.inr rfl) (np1 hpin (by decide)) (ee_mod (by decide) (ee_intI g_int (ee_add (ee_add (ee_mul (.inr ⟨by decide, by decide⟩) (ee_var 1 (pv 1)) ee_int) (ee_mul (.inl ⟨by decide, by decide⟩) ee_int (ee_var 2 (pv 2)))) ee_int)) ee_int) ⟨trivial, trivial⟩) ?_
    replace hf38 := Option.some.inj hf38
    subst hf38
    exact sl_end ⟨rfl, ⟨rfl, trivial⟩⟩
  obtain ⟨p41, hp41, h_⟩ := bsplit h; replace h := h_; clear h_
  obtain ⟨p42, hp42, h_⟩ := bsplit h; replace h := h_; clear h_
  replace h := Option.some.inj h
  subst h
  exact sl_exit (s_ret (Γ1 := [some (.im (D.lst ((script).map D.int))), some (.im (D.int p39)), none]) (m := (Pot.m nmPot (Pot.mk (p42.2).reverse p39 0))) (ee_dsp (kn := [.inr "far", .inr "stirred", .inr "turn"]) (ms := [(.li (((p42.2).reverse).map D.int)), (.im (D.int p39)), (.im (D.int 0))]) (eps_cons ee_str (ee_revLE (enc := D.int) (ee_lc (s1 := p42.1) (ys := p42.2) (f := (fun (t40 : Unit) (c40 : Int) => some ((), if (decide ((10 ^ 12) < (if c40 < 0 then -c40 else c40))) = true then some (if c40 < 0 then -c40 else c40) else none))) (enc := D.int) (eb := D.int) (xs := ((cutL script none (some 60)))) (s0 := ()) (hx := (fun v => .hid (.li (((cutL script none (some 60))).map D.int)) v)) (cond := (fun _ => True)) (Γs := fun (t40 : Unit) => [some (.im (D.lst ((script).map D.int))), some (.im (D.int p39)), none]) (Γt := fun (t40 : Unit) (c40 : Int) => [some (.im (D.lst ((script).map D.int))), some (.im (D.int p39)), some (.im (D.int c40))]) (Γu := fun (t40 : Unit) (c40 : Int) => [some (.im (D.lst ((script).map D.int))), some (.im (D.int p39)), some (.im (D.int c40))]) (tb := (fun t40 c40 => (decide ((10 ^ 12) < (if c40 < 0 then -c40 else c40))))) rfl sc_l_pot.nd (blkOk_by (own := [("cell", 2)]) (N := N_l_pot) (sc := defScope s_l_pot) (by decide +kernel))
   { fx := Fix.hid, it := it_wk (Γ1 := [some (.im (D.lst ((script).map D.int))), some (.im (D.int p39)), none]) (it_lstH (ee_slLE (enc := D.int) (ee_var 0 (pv 0)) ep_none (ep_some ee_int) .fz)) ⟨rfl, ⟨rfl, trivial⟩⟩, cd := fun _ => trivial, gt := fun s H Ca cl fp v q acc t40 c40 => (gt_name 2 sc_l_pot.nd rfl (by first | exact Or.inl rfl | exact Or.inr rfl) (np1 hpin (by decide)) ⟨trivial, ⟨trivial, ⟨trivial, trivial⟩⟩⟩ (by decide)), tt := fun s H Ca cl fp v q acc t40 c40 _ => tests1 (et_gt (ee_abs g_abs (ee_var 2 (pv 2))) (ee_pow ⟨by decide, by decide, by decide +kernel⟩ ee_int ee_int)),
        el := fun s H Ca cl fp v q acc t40 c40 st' y hk hf => by
            rw [if_t hk] at hf; obtain ⟨hf1, hf2⟩ := Prod.mk.inj (Option.some.inj hf); subst hf1; replace hf2 := Option.some.inj hf2; subst hf2; exact ee_wk (Γ1 := [some (.im (D.lst ((script).map D.int))), some (.im (D.int p39)), some (.im (D.int c40))]) (ee_abs g_abs (ee_var 2 (pv 2))) ⟨rfl, ⟨rfl, trivial⟩⟩,
        ft := fun t40 c40 r hk hf => by cases hf; exact ⟨_, if_t hk⟩,
        ff := fun t40 c40 r hk hf => by cases hf; exact ⟨if_f hk, ⟨rfl, ⟨rfl, trivial⟩⟩⟩, br := fun _ => (bare_cons rfl bare_nil), fr := (freeJ_cons ⟨trivial, trivial⟩ freeJ_nil), fh := fun v => (freeJ_cons ⟨trivial, trivial⟩ freeJ_nil), pn := pnJ hpin (by decide), ln := (gd_d hp41) }
   hp42) .own) (eps_cons ee_str (ee_var 1 (pv 1)) (eps_cons ee_str ee_int eps_nil))) (by simp) (by decide) (by decide)) trivial) rfl
abbrev N_draw : List Str := ["pot", "many", "whole", "one"]
theorem sc_draw : FnScope N_draw ["pot", "many"] (defScope s_l_draw) := ⟨rfl, rfl, rfl, by decide +kernel, rfl, by decide +kernel, by decide +kernel⟩
theorem potC_true {d : Pot} (h : potC d = true) : d.far.getLast? = some 0 := by
  unfold potC at h
  cases q : d.far.getLast? with
  | none => rw [q] at h; cases h
  | some c =>
    rw [q] at h
    have := of_decide_eq_true h
    rw [this]
theorem last_at {α : Type} {l : List α} {x : α} (h : l.getLast? = some x) : atI l (-1) = some x := by
  cases l with
  | nil => cases h
  | cons a l =>
    unfold atI ixN
    rw [if_neg (by decide), if_pos (by simp; omega)]
    rw [List.getLast?_eq_getElem?] at h
    rw [← h]
    show (a :: l)[_]? = _
    congr 1
    simp
    omega
theorem draw_ok {P : Program} {w : World} {K : PySem.W.Frag} {mg : Str → Option Value} {base : Heap} {f : Addr} {fd : FuncData} (F : FnP K "_law_draw" s_l_draw f fd) (g_int : mg "int" = none) : FnG P w K mg base 1 f fd ["pot", "many"] (spR K 2 [0] drawPR) := by
  refine fn_body (k := 0) F sc_draw rfl (by decide) (by decide) (by decide) (by rintro ms r ms' ⟨pot, many, out, _, rfl, _, rfl⟩; exact ⟨rfl, rfl⟩) ?_
  rintro cdv A outer s H E H0 io pin mio hpin hr hG ms r ms' ⟨pot, many, out, h, rfl, rfl, rfl⟩
  refine ⟨[some (Pot.m nmPot out.2), none, none, none], ?_, fun k i m h1 h2 => match k, h1, h2 with | 0, h1, h2 => by cases h1; cases h2; rfl⟩
  unfold drawP_m at h
  obtain ⟨d, hd, h⟩ := bsplit h
  obtain ⟨_, hpos, h⟩ := bsplit h
  have pos := gd_d hpos
  refine ss_cons (Γ1 := [some (Pot.m nmPot d), some (.im (.int many)), none, none]) (s_while (Γs := fun (s : Pot) => [some (Pot.m nmPot s), some (.im (.int many)), none, none]) (s0 := pot) (cb := potC) (f := potF) ?_ ?_ hd) ?_
  · intro s
    have hb : potC s = ((!s.far.isEmpty) && potC s) := by
      unfold potC
      cases q : s.far with
      | nil => rfl
      | cons a l => rfl
    rw [hb]
    refine ET.ofW (ew_andP (b1 := !s.far.isEmpty) (et_neNilZE (xs := s.far) hr.units 0 (sub_k hr.units) (pv 0) rfl ee_str Pot.far_sub (oks_map _ fun _ _ => rfl)) fun e1 => ew_and1 ?_)
    obtain ⟨c, hc⟩ : ∃ c, s.far.getLast? = some c := by
      cases q : s.far with
      | nil => rw [q] at e1; cases e1
      | cons a l => exact ⟨_, List.getLast?_eq_some_getLast (by simp)⟩
    have z : potC s = decide (c = 0) := by unfold potC; rw [hc]
    rw [z]
    exact et_eqI (ee_ixZ (ds := s.far.map D.int) (dd := .int c) (i := -1) 0 (sub_k hr.units) (pv 0) rfl ee_str Pot.far_sub eq_negc (atI_map (last_at hc))) ee_int
  · intro s s' hk hf
    cases hf
    exact ss_one (s_expr (ee_popZE (xs := s.far) (x := (0 : Int)) (enc := D.int) 0 (sub_k hr.units) (pv 0) rfl ee_str Pot.far_sub (potC_true hk) Pot.far_chg))
  rcases Bool.eq_false_or_eq_true (!d.far.isEmpty) with hg | hg
  · replace h := (if_t hg).symm.trans h
    obtain ⟨whole, hc, h⟩ := bsplit h
    obtain ⟨_, h1, h⟩ := bsplit h
    obtain ⟨_, h2, h⟩ := bsplit h
    cases h
    refine ss_exit (s_if (et_neNilZE (xs := d.far) hr.units 0 (sub_k hr.units) (pv 0) rfl ee_str Pot.far_sub (oks_map _ fun _ _ => rfl)) (fun _ => ?_) (fun z => absurd (hg.symm.trans z) (by decide))) rfl
    refine ss_cons (Γ1 := [some (Pot.m nmPot ⟨d.far.dropLast, d.mix, d.turn⟩), some (.im (.int many)), some (.im (.int whole)), none]) (s_set (m := .im (.int whole)) 2 sc_draw.nd rfl (Or.inl rfl) (np1 hpin (by decide)) (ee_popZE (xs := d.far) (x := whole) (enc := D.int) 0 (sub_k hr.units) (pv 0) rfl ee_str Pot.far_sub hc Pot.far_chg) trivial) ?_
    refine ss_cons (Γ1 := [some (Pot.m nmPot ⟨d.far.dropLast ++ [whole / many], d.mix, d.turn⟩), some (.im (.int many)), some (.im (.int whole)), none]) (s_expr (ee_appZE (xs := d.far.dropLast) (x := whole / many) (enc := D.int) 0 (sub_k hr.units) (pv 0) rfl ee_str Pot.far_sub (eq_fdivW (gd_d h1) (eq_var 2 (pv 2)) (eq_var 1 (pv 1))) (gd_d h2) Pot.far_chg)) ?_
    exact ss_one (s_ret (m := .im (.int (whole % many))) (ee_intI g_int (ee_mod pos (ee_var 2 (pv 2)) (ee_var 1 (pv 1)))) ⟨rfl, trivial⟩)
  replace h := (if_f hg).symm.trans h
  cases h
  refine ss_cons (Γ1 := [some (Pot.m nmPot d), some (.im (.int many)), none, none]) (s_if (et_neNilZE (xs := d.far) hr.units 0 (sub_k hr.units) (pv 0) rfl ee_str Pot.far_sub (oks_map _ fun _ _ => rfl)) (fun z => absurd (hg.symm.trans z) (by decide)) (fun _ => ss_nil ⟨rfl, rfl, trivial⟩)) ?_
  refine ss_cons (Γ1 := [some (Pot.m nmPot ⟨d.far, d.mix, d.turn + 1⟩), some (.im (.int many)), none, none]) (s_putTurnP (d := d) nmPot hr.units 0 (pv 0) (ee_add (ee_pTurn nmPot hr.units 0 (pv 0)) ee_int) rfl ee_str) ?_
  refine ss_cons (Γ1 := [some (Pot.m nmPot ⟨d.far, d.mix, d.turn + 1⟩), some (.im (.int many)), none, some (.im (.int ((d.mix + (d.turn + 1) * 39373) % 2147483587)))]) (s_set (m := .im (.int ((d.mix + (d.turn + 1) * 39373) % 2147483587))) 3 sc_draw.nd rfl (Or.inl rfl) (np1 hpin (by decide)) (ee_mod (by decide) (ee_intI g_int (ee_add (ee_pMix nmPot (d := ⟨d.far, d.mix, d.turn + 1⟩) hr.units 0 (pv 0)) (ee_mul (.inr ⟨by decide, by decide⟩) (ee_pTurn nmPot (d := ⟨d.far, d.mix, d.turn + 1⟩) hr.units 0 (pv 0)) ee_int))) ee_int) trivial) ?_
  refine ss_cons (s_set 3 sc_draw.nd rfl (Or.inl rfl) (np1 hpin (by decide)) (ee_mod (by decide) (ee_intI g_int (ee_add (ee_add (ee_mul (modB (b := 2147483587) (by decide) (by decide)) (ee_var 3 (pv 3)) (ee_var 3 (pv 3))) (ee_mul (.inr ⟨by decide, by decide⟩) (ee_pTurn nmPot (d := ⟨d.far, d.mix, d.turn + 1⟩) hr.units 0 (pv 0)) ee_int)) ee_int)) ee_int) trivial) ?_
  exact ss_one (s_ret (ee_mod pos (ee_intI g_int (ee_fdivW ⟨by decide, by decide +kernel⟩ (ee_mod (by decide) (ee_intI g_int (ee_add (ee_mul (.inr ⟨by decide, by decide⟩) (ee_var 3 (pv 3)) ee_int) (ee_pMix nmPot (d := ⟨d.far, d.mix, d.turn + 1⟩) hr.units 0 (pv 0)))) ee_int) ee_int)) (ee_var 1 (pv 1))) ⟨rfl, trivial⟩)

theorem sc_pick : FnScope ["pot", "items"] ["pot", "items"] (defScope s_l_pick) := ⟨rfl, rfl, rfl, by decide +kernel, rfl, by decide +kernel, by decide +kernel⟩
theorem pick_ok {P : Program} {w : World} {K : PySem.W.Frag} {mg : Str → Option Value} {base : Heap} {f : Addr} {fd : FuncData} (F : FnP K "_law_pick" s_l_pick f fd) {f_l_draw : Addr} {fd_l_draw : FuncData} (G_l_draw : FnG P w K mg base 1 f_l_draw fd_l_draw ["pot", "many"] (spR K 2 [0] drawPR)) (F_l_draw : FnP K "_law_draw" s_l_draw f_l_draw fd_l_draw) (g_l_draw : mg "_law_draw" = some (.ref f_l_draw)) (g_len : mg "len" = none) : FnG P w K mg base 2 f fd ["pot", "items"] (spR K 2 [0] pickPR) := by
  refine fn_body (k := 1) F sc_pick rfl (by decide) (by decide) (by decide) (by rintro ms r ms' ⟨pot, items, out, _, e | e, _, rfl⟩ <;> (subst e; exact ⟨rfl, rfl⟩)) ?_
  rintro cdv A outer s H E H0 io pin mio hpin hr hG ms r ms' ⟨pot, items, out, h, hms, rfl, rfl⟩
  have kp := F_l_draw.kp
  have bd : Binds K fd_l_draw ["pot", "many"] [] := F_l_draw.bindsN fun _ _ _ _ _ _ us hl => match us, hl with | [_, _], _ => rfl
  refine ⟨[some (Pot.m nmPot out.2), none], ?_, fun k i m h1 h2 => match k, h1, h2 with | 0, h1, h2 => by cases h1; cases h2; rfl⟩
  unfold pickP_m at h
  obtain ⟨p1, h1, h⟩ := bsplit h
  obtain ⟨p2, h2, h⟩ := bsplit h
  cases h
  rcases hms with rfl | rfl
  · exact ss_one (s_ret (m := .im p2) (ee_ixL (ee_var 1 (pv 1)) (ee_call (k := 1) G_l_draw hr hG g_l_draw kp bd (ea_cons (ee_tk 0 (pv 0)) (ea_cons (ee_lenL g_len (ee_var 1 (pv 1)) .fz) ea_nil)) ⟨pot, items.length, p1, h1, rfl, rfl, rfl⟩) .fz h2) ⟨rfl, trivial⟩)
  · exact ss_one (s_ret (m := .im p2) (ee_ixT (ee_var 1 (pv 1)) (ee_call (k := 1) G_l_draw hr hG g_l_draw kp bd (ea_cons (ee_tk 0 (pv 0)) (ea_cons (ee_lenT g_len (ee_var 1 (pv 1))) ea_nil)) ⟨pot, items.length, p1, h1, rfl, rfl, rfl⟩) h2) ⟨rfl, trivial⟩)

theorem sc_same : FnScope ["found", "due", "one", "other"] ["found", "due"] (defScope s_l_same) := ⟨rfl, rfl, rfl, by decide +kernel, rfl, by decide +kernel, by decide +kernel⟩
theorem sameP_ok {P : Program} {w : World} {K : PySem.W.Frag} {mg : Str → Option Value} {base : Heap} {f : Addr} {fd : FuncData} (F : FnP K "_law_same" s_l_same f fd) (gf : mg "_law_same" = some (.ref f)) (g_isi : mg "isinstance" = none) (g_tuple : mg "tuple" = none) (g_list : mg "list" = none) (g_len : mg "len" = none) (g_repr : mg "repr" = none) (g_all : mg "all" = none) (g_zip : mg "zip" = none) (g_bool : mg "bool" = none) (g_str : mg "str" = none) (g_int : mg "int" = none) : ∀ n, FnG P w K mg base (n + 1) f fd ["found", "due"] (spR K 2 [] (samePR n)) := by
  intro n
  have kp := F.kp
  have bd : Binds K fd ["found", "due"] [] := F.bindsN fun _ _ _ _ _ _ us hl => match us, hl with | [_, _], _ => rfl
  have main : ∀ n : Nat, (∀ m, n = m + 1 → FnG P w K mg base (m + 1) f fd ["found", "due"] (spR K 2 [] (samePR m))) → FnG P w K mg base (n + 1) f fd ["found", "due"] (spR K 2 [] (samePR n)) := by
    intro n ih
    refine fn_body (k := n) F sc_same rfl (by decide) (by decide) (by decide) (by rintro ms r ms' ⟨d, _, rfl, _, rfl⟩; exact ⟨rfl, rfl⟩) ?_
    rintro cdv A outer s H E H0 io pin mio hpin hr hG ms r ms' ⟨d, hd, rfl, rfl, rfl⟩
    refine ⟨[none, none, none, none], ?_, fun k i m h1 h2 => by simp at h1⟩
    have nt := pq_ty hd
    have vt : bootBuiltins "tuple" = some (.type "tuple") := by decide +kernel
    have vl : bootBuiltins "list" = some (.type "list") := by decide +kernel
    have vb : bootBuiltins "bool" = some (.type "bool") := by decide +kernel
    have vi : bootBuiltins "int" = some (.type "int") := by decide +kernel
    have vs : bootBuiltins "str" = some (.type "str") := by decide +kernel
    cases d with
    | non =>
      refine ss_cons (Γ1 := [some (.im (.non)), some (.im (.non)), none, none]) (s_if (k := false) (ET.ofW (ew_or (b1 := false) (Γ1 := [some (.im (.non)), some (.im (.non)), none, none]) (et_val (ee_isi g_isi (ee_var 1 (pv 1)) (ee_ty g_tuple vt) (kit_tuple nt) nt)) (fun _ => ew_or1 (et_val (k := false) (ee_isi g_isi (ee_var 1 (pv 1)) (ee_ty g_list vl) (kit_list nt) nt))) (fun z => absurd z (by decide)))) (fun z => absurd z (by decide)) (fun _ => ss_nil ⟨rfl, rfl, trivial⟩)) ?_
      refine ss_exit (s_if (k := true) (et_isN (d := .non) (ee_var 1 (pv 1))) (fun _ => ?_) (fun z => absurd z (by decide))) rfl
      exact ss_one (s_ret (m := .im (.bl true)) (ee_isN (d := .non) (ee_var 0 (pv 0))) trivial)
    | bl b =>
      refine ss_cons (Γ1 := [some (.im (.bl b)), some (.im (.bl b)), none, none]) (s_if (k := false) (ET.ofW (ew_or (b1 := false) (Γ1 := [some (.im (.bl b)), some (.im (.bl b)), none, none]) (et_val (ee_isi g_isi (ee_var 1 (pv 1)) (ee_ty g_tuple vt) (kit_tuple nt) nt)) (fun _ => ew_or1 (et_val (k := false) (ee_isi g_isi (ee_var 1 (pv 1)) (ee_ty g_list vl) (kit_list nt) nt))) (fun z => absurd z (by decide)))) (fun z => absurd z (by decide)) (fun _ => ss_nil ⟨rfl, rfl, trivial⟩)) ?_
      refine ss_cons (Γ1 := [some (.im (.bl b)), some (.im (.bl b)), none, none]) (s_if (k := false) (et_isN (d := .bl b) (ee_var 1 (pv 1))) (fun z => absurd z (by decide)) (fun _ => ss_nil ⟨rfl, rfl, trivial⟩)) ?_
      refine ss_exit (s_if (k := true) (et_val (ee_isi g_isi (ee_var 1 (pv 1)) (ee_ty g_bool vb) (kit_bool nt) nt)) (fun _ => ?_) (fun z => absurd z (by decide))) rfl
      refine ss_one (s_ret (m := .im (.bl true)) (ee_if (k := b) (t := .im (.bl true)) (Γ' := [some (.im (.bl b)), some (.im (.bl b)), none, none]) (et_val (ee_var 1 (pv 1))) (fun hk => ?_) (fun hk => ?_)) trivial)
      · subst hk; exact ee_isB (k := true) (ee_var 0 (pv 0))
      · subst hk; exact ee_isB (k := false) (ee_var 0 (pv 0))
    | int i =>
      refine ss_cons (Γ1 := [some (.im (.int i)), some (.im (.int i)), none, none]) (s_if (k := false) (ET.ofW (ew_or (b1 := false) (Γ1 := [some (.im (.int i)), some (.im (.int i)), none, none]) (et_val (ee_isi g_isi (ee_var 1 (pv 1)) (ee_ty g_tuple vt) (kit_tuple nt) nt)) (fun _ => ew_or1 (et_val (k := false) (ee_isi g_isi (ee_var 1 (pv 1)) (ee_ty g_list vl) (kit_list nt) nt))) (fun z => absurd z (by decide)))) (fun z => absurd z (by decide)) (fun _ => ss_nil ⟨rfl, rfl, trivial⟩)) ?_
      refine ss_cons (Γ1 := [some (.im (.int i)), some (.im (.int i)), none, none]) (s_if (k := false) (et_isN (d := .int i) (ee_var 1 (pv 1))) (fun z => absurd z (by decide)) (fun _ => ss_nil ⟨rfl, rfl, trivial⟩)) ?_
      refine ss_cons (Γ1 := [some (.im (.int i)), some (.im (.int i)), none, none]) (s_if (k := false) (et_val (ee_isi g_isi (ee_var 1 (pv 1)) (ee_ty g_bool vb) (kit_bool nt) nt)) (fun z => absurd z (by decide)) (fun _ => ss_nil ⟨rfl, rfl, trivial⟩)) ?_
      refine ss_cons (Γ1 := [some (.im (.int i)), some (.im (.int i)), none, none]) (s_if (k := false) (et_val (ee_isi g_isi (ee_var 1 (pv 1)) (ee_ty g_str vs) (kit_str nt) nt)) (fun z => absurd z (by decide)) (fun _ => ss_nil ⟨rfl, rfl, trivial⟩)) ?_
      refine ss_one (s_ret (m := .im (.bl true)) (ee_andP (b1 := true) (k := true) (ee_isi g_isi (ee_var 0 (pv 0)) (ee_ty g_int vi) (kit_int nt) nt) fun _ => ee_andP (b1 := true) (k := true) (ee_not (k := false) (ee_isi g_isi (ee_var 0 (pv 0)) (ee_ty g_bool vb) (kit_bool nt) nt)) fun _ => ee_one (t := .im (.bl true)) ?_) trivial)
      have z : decide (i = i) = true := by simp
      rw [← z]
      exact ee_eqI (ee_var 0 (pv 0)) (ee_var 1 (pv 1))
    | str i =>
      refine ss_cons (Γ1 := [some (.im (.str i)), some (.im (.str i)), none, none]) (s_if (k := false) (ET.ofW (ew_or (b1 := false) (Γ1 := [some (.im (.str i)), some (.im (.str i)), none, none]) (et_val (ee_isi g_isi (ee_var 1 (pv 1)) (ee_ty g_tuple vt) (kit_tuple nt) nt)) (fun _ => ew_or1 (et_val (k := false) (ee_isi g_isi (ee_var 1 (pv 1)) (ee_ty g_list vl) (kit_list nt) nt))) (fun z => absurd z (by decide)))) (fun z => absurd z (by decide)) (fun _ => ss_nil ⟨rfl, rfl, trivial⟩)) ?_
      refine ss_cons (Γ1 := [some (.im (.str i)), some (.im (.str i)), none, none]) (s_if (k := false) (et_isN (d := .str i) (ee_var 1 (pv 1))) (fun z => absurd z (by decide)) (fun _ => ss_nil ⟨rfl, rfl, trivial⟩)) ?_
      refine ss_cons (Γ1 := [some (.im (.str i)), some (.im (.str i)), none, none]) (s_if (k := false) (et_val (ee_isi g_isi (ee_var 1 (pv 1)) (ee_ty g_bool vb) (kit_bool nt) nt)) (fun z => absurd z (by decide)) (fun _ => ss_nil ⟨rfl, rfl, trivial⟩)) ?_
      refine ss_exit (s_if (k := true) (et_val (ee_isi g_isi (ee_var 1 (pv 1)) (ee_ty g_str vs) (kit_str nt) nt)) (fun _ => ?_) (fun z => absurd z (by decide))) rfl
      refine ss_one (s_ret (m := .im (.bl true)) (ee_andP (b1 := true) (k := true) (ee_isi g_isi (ee_var 0 (pv 0)) (ee_ty g_str vs) (kit_str nt) nt) fun _ => ee_one (t := .im (.bl true)) ?_) trivial)
      have z : decide (i = i) = true := by simp
      rw [← z]
      exact ee_eqS (ee_var 0 (pv 0)) (ee_var 1 (pv 1))
    | tup l =>
      cases n with
      | zero => unfold D.pq at hd; cases hd
      | succ n =>
        have hd' := hd
        unfold D.pq at hd'
        rw [Bool.and_eq_true] at hd'
        obtain ⟨hs, hl⟩ := hd'
        rw [Bool.and_eq_true] at hs
        obtain ⟨hs, hle⟩ := hs
        obtain ⟨z, hz⟩ := Option.isSome_iff_exists.mp hs
        refine ss_exit (s_if (k := true) (ET.ofW (ew_or (b1 := true) (k := true) (Γ1 := [some (.im (.tup l)), some (.im (.tup l)), none, none]) (et_val (ee_isi g_isi (ee_var 1 (pv 1)) (ee_ty g_tuple vt) (kit_tuple nt) nt)) (fun z => absurd z (by decide)) (fun _ => ⟨rfl, rfl⟩))) (fun _ => ?_) (fun z => absurd z (by decide))) rfl
        refine ss_cons (Γ1 := [some (.im (.tup l)), some (.im (.tup l)), none, none]) (s_if (k := false) (ET.ofW (ew_or (b1 := false) (et_to (k2 := false) (et_neT (f := D.bl) (k := 5) hr.units eqt_bl (by decide) (ee_isi g_isi (ee_var 0 (pv 0)) (ee_ty g_tuple vt) (kit_tuple nt) nt) (ee_isi g_isi (ee_var 1 (pv 1)) (ee_ty g_tuple vt) (kit_tuple nt) nt)) (by simp)) (fun _ => ew_or1 (et_to (k2 := false) (et_neT (f := D.bl) (k := 5) hr.units eqt_bl (by decide) (ee_isi g_isi (ee_var 0 (pv 0)) (ee_ty g_list vl) (kit_list nt) nt) (ee_isi g_isi (ee_var 1 (pv 1)) (ee_ty g_list vl) (kit_list nt) nt)) (by simp))) (fun z => absurd z (by decide)))) (fun z => absurd z (by decide)) (fun _ => ss_nil ⟨rfl, rfl, trivial⟩)) ?_
        refine ss_cons (Γ1 := [some (.im (.tup l)), some (.im (.tup l)), none, none]) (s_if (k := false) (ET.ofW (ew_or (b1 := false) (et_to (k2 := false) (et_neI (ee_lenT g_len (ee_var 0 (pv 0))) (ee_lenT g_len (ee_var 1 (pv 1)))) (by simp)) (fun _ => ew_or1 (et_to (k2 := false) (et_neS (ee_shDD hG hr.units g_repr (ee_var 0 (pv 0)) hz) (ee_shDD hG hr.units g_repr (ee_var 1 (pv 1)) hz)) (by simp))) (fun z => absurd z (by decide)))) (fun z => absurd z (by decide)) (fun _ => ss_nil ⟨rfl, rfl, trivial⟩)) ?_
        have hlc : lcM (samePF n) () (l.zip l) = some ((), List.replicate l.length true) := samePF_all hl
        have hlen : (l.zip l).length ≤ sizeLine := by have := of_decide_eq_true hle; rw [List.length_zip, Nat.min_self]; exact big this
        have ae := all_rep l.length
        refine ss_one (s_ret (Γ1 := [some (.im (.tup l)), some (.im (.tup l)), none, none]) (m := .im (.bl true)) (ee_to (d := .bl ((List.replicate l.length true).all id)) ?_ (by rw [ae])) trivial)
        rw [show (D.tup l) = D.tup (l.map eX) by rw [map_eX]]
        refine ee_allL rfl g_all (ee_lc (s1 := ()) (ys := List.replicate l.length true) (f := samePF n) (enc := (eW2 eX eX)) (eb := D.bl) (xs := (l.zip l)) (s0 := ()) (hx := (hz2 K .t .t (l.map eX) (l.map eX))) (cond := (fun _ => True)) (Γs := fun (_ : Unit) => [some (.im (.tup (l.map eX))), some (.im (.tup (l.map eX))), none, none]) (Γt := fun (_ : Unit) (c : (D × D)) => [some (.im (.tup (l.map eX))), some (.im (.tup (l.map eX))), some (.im c.1), some (.im c.2)]) (Γu := fun (_ : Unit) (c : (D × D)) => [some (.im (.tup (l.map eX))), some (.im (.tup (l.map eX))), some (.im c.1), some (.im c.2)]) (tb := (fun _ _ => true)) rfl sc_same.nd (blkOk_by (own := [("one", 2), ("other", 3)]) (N := ["found", "due", "one", "other"]) (sc := defScope s_l_same) (by decide +kernel))
          { fx := hz2_fix, it := it_wk (Γ1 := [some (.im (.tup (l.map eX))), some (.im (.tup (l.map eX))), none, none]) (it_z2 (f := eX) (g := eX) .t .t g_zip (ee_var 0 (pv 0)) (ee_var 1 (pv 1))) ⟨rfl, ⟨rfl, trivial⟩⟩, cd := fun _ => trivial, gt := fun s H Ca cl fp v q acc t c => (gt_tupw rfl (gts_cons (gt_name 2 sc_same.nd rfl (by first | exact Or.inl rfl | exact Or.inr rfl) (np1 hpin (by decide)) ⟨trivial, ⟨trivial, trivial⟩⟩ (by decide)) (gts_cons (gt_name 3 sc_same.nd rfl (by first | exact Or.inl rfl | exact Or.inr rfl) (np1 hpin (by decide)) ⟨trivial, ⟨trivial, trivial⟩⟩ (by decide)) gts_nil))), tt := fun s H Ca cl fp v q acc t c _ => tests0,
            el := fun s H Ca cl fp v q acc t c st' y hk hf => by
              obtain ⟨h1, h2, h3⟩ := samePF_inv hf; obtain ⟨hf1, hf2⟩ := Prod.mk.inj h3; replace hf2 := Option.some.inj hf2; subst hf2; exact ee_wk (Γ1 := [some (.im (.tup (l.map eX))), some (.im (.tup (l.map eX))), some (.im c.1), some (.im c.2)]) (ee_callX (k := n + 1) (ms := [.im c.1, .im c.2]) (ih n rfl) hr hG gf kp bd (ea_cons (ee_var 2 (pv 2)) (ea_cons (ee_var 3 (pv 3)) ea_nil)) ⟨c.2, h2, congrArg (fun z => [M.im z, M.im c.2]) h1, rfl, rfl⟩) ⟨rfl, ⟨rfl, trivial⟩⟩,
            ft := fun t c r hk hf => by
              obtain ⟨h1, h2, h3⟩ := samePF_inv hf; cases h3; exact ⟨_, rfl⟩,
            ff := fun t c r hk hf => Bool.noConfusion hk, br := fun _ => (bare_cons rfl (bare_cons rfl bare_nil)), fr := (freeJ_cons trivial (freeJ_cons trivial freeJ_nil)), fh := fun v => (freeJ_cons ⟨trivial, trivial⟩ (freeJ_cons ⟨trivial, trivial⟩ freeJ_nil)), pn := pnJ hpin (by decide), ln := hlen }
          hlc) .own
    | lst l =>
      cases n with
      | zero => unfold D.pq at hd; cases hd
      | succ n =>
        have hd' := hd
        unfold D.pq at hd'
        rw [Bool.and_eq_true] at hd'
        obtain ⟨hs, hl⟩ := hd'
        rw [Bool.and_eq_true] at hs
        obtain ⟨hs, hle⟩ := hs
        obtain ⟨z, hz⟩ := Option.isSome_iff_exists.mp hs
        refine ss_exit (s_if (k := true) (ET.ofW (ew_or (b1 := false) (Γ1 := [some (.im (.lst l)), some (.im (.lst l)), none, none]) (et_val (ee_isi g_isi (ee_var 1 (pv 1)) (ee_ty g_tuple vt) (kit_tuple nt) nt)) (fun _ => ew_or1 (et_val (k := true) (ee_isi g_isi (ee_var 1 (pv 1)) (ee_ty g_list vl) (kit_list nt) nt))) (fun z => absurd z (by decide)))) (fun _ => ?_) (fun z => absurd z (by decide))) rfl
        refine ss_cons (Γ1 := [some (.im (.lst l)), some (.im (.lst l)), none, none]) (s_if (k := false) (ET.ofW (ew_or (b1 := false) (et_to (k2 := false) (et_neT (f := D.bl) (k := 5) hr.units eqt_bl (by decide) (ee_isi g_isi (ee_var 0 (pv 0)) (ee_ty g_tuple vt) (kit_tuple nt) nt) (ee_isi g_isi (ee_var 1 (pv 1)) (ee_ty g_tuple vt) (kit_tuple nt) nt)) (by simp)) (fun _ => ew_or1 (et_to (k2 := false) (et_neT (f := D.bl) (k := 5) hr.units eqt_bl (by decide) (ee_isi g_isi (ee_var 0 (pv 0)) (ee_ty g_list vl) (kit_list nt) nt) (ee_isi g_isi (ee_var 1 (pv 1)) (ee_ty g_list vl) (kit_list nt) nt)) (by simp))) (fun z => absurd z (by decide)))) (fun z => absurd z (by decide)) (fun _ => ss_nil ⟨rfl, rfl, trivial⟩)) ?_
        refine ss_cons (Γ1 := [some (.im (.lst l)), some (.im (.lst l)), none, none]) (s_if (k := false) (ET.ofW (ew_or (b1 := false) (et_to (k2 := false) (et_neI (ee_lenL g_len (ee_var 0 (pv 0)) .fz) (ee_lenL g_len (ee_var 1 (pv 1)) .fz)) (by simp)) (fun _ => ew_or1 (et_to (k2 := false) (et_neS (ee_shDD hG hr.units g_repr (ee_var 0 (pv 0)) hz) (ee_shDD hG hr.units g_repr (ee_var 1 (pv 1)) hz)) (by simp))) (fun z => absurd z (by decide)))) (fun z => absurd z (by decide)) (fun _ => ss_nil ⟨rfl, rfl, trivial⟩)) ?_
        have hlc : lcM (samePF n) () (l.zip l) = some ((), List.replicate l.length true) := samePF_all hl
        have hlen : (l.zip l).length ≤ sizeLine := by have := of_decide_eq_true hle; rw [List.length_zip, Nat.min_self]; exact big this
        have ae := all_rep l.length
        refine ss_one (s_ret (Γ1 := [some (.im (.lst l)), some (.im (.lst l)), none, none]) (m := .im (.bl true)) (ee_to (d := .bl ((List.replicate l.length true).all id)) ?_ (by rw [ae])) trivial)
        rw [show (D.lst l) = D.lst (l.map eX) by rw [map_eX]]
        refine ee_allL rfl g_all (ee_lc (s1 := ()) (ys := List.replicate l.length true) (f := samePF n) (enc := (eW2 eX eX)) (eb := D.bl) (xs := (l.zip l)) (s0 := ()) (hx := (hz2 K .l .l (l.map eX) (l.map eX))) (cond := (fun _ => True)) (Γs := fun (_ : Unit) => [some (.im (.lst (l.map eX))), some (.im (.lst (l.map eX))), none, none]) (Γt := fun (_ : Unit) (c : (D × D)) => [some (.im (.lst (l.map eX))), some (.im (.lst (l.map eX))), some (.im c.1), some (.im c.2)]) (Γu := fun (_ : Unit) (c : (D × D)) => [some (.im (.lst (l.map eX))), some (.im (.lst (l.map eX))), some (.im c.1), some (.im c.2)]) (tb := (fun _ _ => true)) rfl sc_same.nd (blkOk_by (own := [("one", 2), ("other", 3)]) (N := ["found", "due", "one", "other"]) (sc := defScope s_l_same) (by decide +kernel))
          { fx := hz2_fix, it := it_wk (Γ1 := [some (.im (.lst (l.map eX))), some (.im (.lst (l.map eX))), none, none]) (it_z2 (f := eX) (g := eX) .l .l g_zip (ee_var 0 (pv 0)) (ee_var 1 (pv 1))) ⟨rfl, ⟨rfl, trivial⟩⟩, cd := fun _ => trivial, gt := fun s H Ca cl fp v q acc t c => (gt_tupw rfl (gts_cons (gt_name 2 sc_same.nd rfl (by first | exact Or.inl rfl | exact Or.inr rfl) (np1 hpin (by decide)) ⟨trivial, ⟨trivial, trivial⟩⟩ (by decide)) (gts_cons (gt_name 3 sc_same.nd rfl (by first | exact Or.inl rfl | exact Or.inr rfl) (np1 hpin (by decide)) ⟨trivial, ⟨trivial, trivial⟩⟩ (by decide)) gts_nil))), tt := fun s H Ca cl fp v q acc t c _ => tests0,
            el := fun s H Ca cl fp v q acc t c st' y hk hf => by
              obtain ⟨h1, h2, h3⟩ := samePF_inv hf; obtain ⟨hf1, hf2⟩ := Prod.mk.inj h3; replace hf2 := Option.some.inj hf2; subst hf2; exact ee_wk (Γ1 := [some (.im (.lst (l.map eX))), some (.im (.lst (l.map eX))), some (.im c.1), some (.im c.2)]) (ee_callX (k := n + 1) (ms := [.im c.1, .im c.2]) (ih n rfl) hr hG gf kp bd (ea_cons (ee_var 2 (pv 2)) (ea_cons (ee_var 3 (pv 3)) ea_nil)) ⟨c.2, h2, congrArg (fun z => [M.im z, M.im c.2]) h1, rfl, rfl⟩) ⟨rfl, ⟨rfl, trivial⟩⟩,
            ft := fun t c r hk hf => by
              obtain ⟨h1, h2, h3⟩ := samePF_inv hf; cases h3; exact ⟨_, rfl⟩,
            ff := fun t c r hk hf => Bool.noConfusion hk, br := fun _ => (bare_cons rfl (bare_cons rfl bare_nil)), fr := (freeJ_cons trivial (freeJ_cons trivial freeJ_nil)), fh := fun v => (freeJ_cons ⟨trivial, trivial⟩ (freeJ_cons ⟨trivial, trivial⟩ freeJ_nil)), pn := pnJ hpin (by decide), ln := hlen }
          hlc) .own
    | dct l => cases n <;> (unfold D.pq at hd; cases hd)
    | ty l => exact absurd rfl (nt l)
    | tpw l => cases n <;> (unfold D.pq at hd; cases hd)
  induction n with
  | zero => exact main 0 fun m e => by cases e
  | succ n ih => exact main (n + 1) fun m e => by cases e; exact ih

abbrev N_l_mixed : List Str := ["pot", "items", "found", "item", "spot"]
theorem sc_l_mixed : FnScope N_l_mixed ["pot", "items"] (defScope s_l_mixed) := ⟨rfl, rfl, rfl, by decide +kernel, rfl, by decide +kernel, by decide +kernel⟩
abbrev mixPLR : List M → M → List M → Prop := fun ms r ms' => ∃ (pot : Pot) (items : (List D)) (out : ((List D) × Pot)), mixP_m pot items = some out ∧ ms = [(Pot.m nmPot pot), (.im (D.lst ((items).map eX)))] ∧ r = (.li (((out.1)).map eX)) ∧ ms' = [(Pot.m nmPot (out.2))]
theorem mixP_okL {P : Program} {w : World} {K : PySem.W.Frag} {mg : Str → Option Value} {base : Heap} {f : Addr} {fd : FuncData} (F : FnP K "_law_mixed" s_l_mixed f fd) {f_l_draw : Addr} {fd_l_draw : FuncData} (G_l_draw : FnG P w K mg base 1 f_l_draw fd_l_draw ["pot", "many"] (spR K 2 [0] drawPR)) (F_l_draw : FnP K "_law_draw" s_l_draw f_l_draw fd_l_draw) (g_l_draw : mg "_law_draw" = some (.ref f_l_draw)) (g_len : mg "len" = none) : FnG P w K mg base 2 f fd ["pot", "items"] (spR K 2 [0] mixPLR) := by
  refine fn_body (k := 1) F sc_l_mixed rfl (by decide) (by decide) (by decide) (by rintro ms r ms' ⟨pot, items, out, _, rfl, _, rfl⟩; exact ⟨rfl, rfl⟩) ?_
  rintro cdv A outer s H E H0 io pin mio hpin hr hG ms r ms' ⟨pot, items, out, h, rfl, rfl, rfl⟩
  refine ⟨[some (Pot.m nmPot (out.2)), none, none, none, none], ?_, fun k i m h1 h2 => match k, h1, h2 with | 0, h1, h2 => by cases h1; cases h2; rfl⟩
  unfold mixP_m at h
  refine sl_in ?_
  have kp_l_draw := F_l_draw.kp
  have b_l_draw : Binds K fd_l_draw ["pot", "many"] [] := F_l_draw.bindsN fun _ _ _ _ _ _ us hl => match us, hl with | [_, _], _ => rfl
  refine sl_cons (Γ1 := [some (Pot.m nmPot pot), some (.im (D.lst ((items).map eX))), some (.li ((([] : (List D))).map eX)), none, none]) (s_set (Γ1 := [some (Pot.m nmPot pot), some (.im (D.lst ((items).map eX))), none, none, none]) (m := (.li ((([] : (List D))).map eX))) 2 sc_l_mixed.nd rfl (by first | exact Or.inl rfl | exact Or.inr rfl) (np1 hpin (by decide)) (ee_lst (ds := []) ea_nil (show 0 ≤ 1000 by decide)) trivial) ?_
  obtain ⟨p8, hp8, h_⟩ := bsplit h; replace h := h_; clear h_
  refine sl_cons (Γ1 := [some (Pot.m nmPot (p8.1)), some (.im (D.lst ((items).map eX))), some (.li (((p8.2)).map eX)), none, none]) (s_for (J := [3]) (enc := eX) (xs := (items)) (hx := (fun v => .hid (.im (.lst ((items).map eX))) v)) (cond := (fun _ => True)) (f := mixP_f) (s0 := (pot, ([] : (List D)))) (Γs := fun (s1 : (Pot × (List D))) => [some (Pot.m nmPot (s1.1)), some (.im (D.lst ((items).map eX))), some (.li (((s1.2)).map eX)), none, none]) (Γt := fun (s1 : (Pot × (List D))) (x1 : D) => [some (Pot.m nmPot (s1.1)), some (.im (D.lst ((items).map eX))), some (.li (((s1.2)).map eX)), some (.im x1), none]) rfl Fix.hid (it_wk (Γ1 := [some (Pot.m nmPot pot), some (.im (D.lst ((items).map eX))), some (.li ((([] : (List D))).map eX)), none, none]) (it_lstF (ee_var 1 (pv 1))) ⟨rfl, ⟨rfl, ⟨rfl, trivial⟩⟩⟩) (fun _ => trivial) ?_ ?_ hp8) ?_
  · intro v1 s1 x1
    exact (gt_name 3 sc_l_mixed.nd rfl (by first | exact Or.inl rfl | exact Or.inr rfl) (np1 hpin (by decide)) ⟨trivial, trivial⟩ (by decide))
  · intro v1 s1 x1 s_1 hf1
    unfold mixP_f at hf1
    refine sl_in ?_
    obtain ⟨p5, hp5, hf1_⟩ := bsplit hf1; replace hf1 := hf1_; clear hf1_
    refine sl_cons (Γ1 := [some (Pot.m nmPot (p5.2)), some (.im (D.lst ((items).map eX))), some (.li (((s1.2)).map eX)), some (.im x1), some (.im (D.int (p5.1)))]) (s_set (Γ1 := [some (Pot.m nmPot (p5.2)), some (.im (D.lst ((items).map eX))), some (.li (((s1.2)).map eX)), some (.im x1), none]) (m := (.im (D.int (p5.1)))) 4 sc_l_mixed.nd rfl (by first | exact Or.inl rfl | exact Or.inr rfl) (np1 hpin (by decide)) (ee_callX (k := 1) (G_l_draw.mono (by decide)) hr hG g_l_draw kp_l_draw b_l_draw (ea_cons (ee_tk 0 (pv 0)) (ea_cons (ee_add (ee_lenLE (enc := eX) g_len (ee_al 2 (pv 2)) (.al rfl)) ee_int) ea_nil)) ⟨(s1.1), ((((s1.2)).length : Int) + 1), p5, hp5, rfl, rfl, rfl⟩) ⟨trivial, trivial⟩) ?_
    obtain ⟨p6, hp6, hf1_⟩ := bsplit hf1; replace hf1 := hf1_; clear hf1_
    obtain ⟨p7, hp7, hf1_⟩ := bsplit hf1; replace hf1 := hf1_; clear hf1_
    refine sl_cons (Γ1 := [some (Pot.m nmPot (p5.2)), some (.im (D.lst ((items).map eX))), some (.li (((((cutL (s1.2) none (some (p5.1))) ++ ([x1] : (List D))) ++ (cutL (s1.2) (some (p5.1)) none))).map eX)), some (.im x1), some (.im (D.int (p5.1)))]) (s_set (Γ1 := [some (Pot.m nmPot (p5.2)), some (.im (D.lst ((items).map eX))), some (.li (((s1.2)).map eX)), some (.im x1), some (.im (D.int (p5.1)))]) (m := (.li (((((cutL (s1.2) none (some (p5.1))) ++ ([x1] : (List D))) ++ (cutL (s1.2) (some (p5.1)) none))).map eX))) 2 sc_l_mixed.nd rfl (by first | exact Or.inl rfl | exact Or.inr rfl) (np1 hpin (by decide)) (ee_catE (enc := eX) (ee_catE (enc := eX) (ee_slLE (enc := eX) (ee_al 2 (pv 2)) ep_none (ep_some (ee_var 4 (pv 4))) (.al rfl)) (ee_lst (ds := [x1]) (ea_cons (ee_var 3 (pv 3)) ea_nil) (show 1 ≤ 1000 by decide)) .own .own (gd_d hp6)) (ee_slLE (enc := eX) (ee_al 2 (pv 2)) (ep_some (ee_var 4 (pv 4))) ep_none (.al rfl)) .own .own (gd_d hp7)) ⟨trivial, trivial⟩) ?_
    replace hf1 := Option.some.inj hf1
    subst hf1
    exact sl_end ⟨rfl, ⟨rfl, ⟨rfl, trivial⟩⟩⟩
  replace h := Option.some.inj h
  subst h
  exact sl_exit (s_ret (Γ1 := [some (Pot.m nmPot (p8.1)), some (.im (D.lst ((items).map eX))), none, none, none]) (m := (.li (((p8.2)).map eX))) (ee_mv 2 (pv 2)) ⟨rfl, trivial⟩) rfl
abbrev mixPTR : List M → M → List M → Prop := fun ms r ms' => ∃ (pot : Pot) (items : (List D)) (out : ((List D) × Pot)), mixP_m pot items = some out ∧ ms = [(Pot.m nmPot pot), (.im (D.tup ((items).map eX)))] ∧ r = (.li (((out.1)).map eX)) ∧ ms' = [(Pot.m nmPot (out.2))]
theorem mixP_okT {P : Program} {w : World} {K : PySem.W.Frag} {mg : Str → Option Value} {base : Heap} {f : Addr} {fd : FuncData} (F : FnP K "_law_mixed" s_l_mixed f fd) {f_l_draw : Addr} {fd_l_draw : FuncData} (G_l_draw : FnG P w K mg base 1 f_l_draw fd_l_draw ["pot", "many"] (spR K 2 [0] drawPR)) (F_l_draw : FnP K "_law_draw" s_l_draw f_l_draw fd_l_draw) (g_l_draw : mg "_law_draw" = some (.ref f_l_draw)) (g_len : mg "len" = none) : FnG P w K mg base 2 f fd ["pot", "items"] (spR K 2 [0] mixPTR) := by
  refine fn_body (k := 1) F sc_l_mixed rfl (by decide) (by decide) (by decide) (by rintro ms r ms' ⟨pot, items, out, _, rfl, _, rfl⟩; exact ⟨rfl, rfl⟩) ?_
  rintro cdv A outer s H E H0 io pin mio hpin hr hG ms r ms' ⟨pot, items, out, h, rfl, rfl, rfl⟩
  refine ⟨[some (Pot.m nmPot (out.2)), none, none, none, none], ?_, fun k i m h1 h2 => match k, h1, h2 with | 0, h1, h2 => by cases h1; cases h2; rfl⟩
  unfold mixP_m at h
  refine sl_in ?_
  have kp_l_draw := F_l_draw.kp
  have b_l_draw : Binds K fd_l_draw ["pot", "many"] [] := F_l_draw.bindsN fun _ _ _ _ _ _ us hl => match us, hl with | [_, _], _ => rfl
  refine sl_cons (Γ1 := [some (Pot.m nmPot pot), some (.im (D.tup ((items).map eX))), some (.li ((([] : (List D))).map eX)), none, none]) (s_set (Γ1 := [some (Pot.m nmPot pot), some (.im (D.tup ((items).map eX))), none, none, none]) (m := (.li ((([] : (List D))).map eX))) 2 sc_l_mixed.nd rfl (by first | exact Or.inl rfl | exact Or.inr rfl) (np1 hpin (by decide)) (ee_lst (ds := []) ea_nil (show 0 ≤ 1000 by decide)) trivial) ?_
  obtain ⟨p16, hp16, h_⟩ := bsplit h; replace h := h_; clear h_
  refine sl_cons (Γ1 := [some (Pot.m nmPot (p16.1)), some (.im (D.tup ((items).map eX))), some (.li (((p16.2)).map eX)), none, none]) (s_for (J := [3]) (enc := eX) (xs := (items)) (hx := (fun v => .hid (.im (.tup ((items).map eX))) v)) (cond := (fun _ => True)) (f := mixP_f) (s0 := (pot, ([] : (List D)))) (Γs := fun (s9 : (Pot × (List D))) => [some (Pot.m nmPot (s9.1)), some (.im (D.tup ((items).map eX))), some (.li (((s9.2)).map eX)), none, none]) (Γt := fun (s9 : (Pot × (List D))) (x9 : D) => [some (Pot.m nmPot (s9.1)), some (.im (D.tup ((items).map eX))), some (.li (((s9.2)).map eX)), some (.im x9), none]) rfl Fix.hid (it_wk (Γ1 := [some (Pot.m nmPot pot), some (.im (D.tup ((items).map eX))), some (.li ((([] : (List D))).map eX)), none, none]) (it_tup (ee_var 1 (pv 1))) ⟨rfl, ⟨rfl, ⟨rfl, trivial⟩⟩⟩) (fun _ => trivial) ?_ ?_ hp16) ?_
  · intro v9 s9 x9
    exact (gt_name 3 sc_l_mixed.nd rfl (by first | exact Or.inl rfl | exact Or.inr rfl) (np1 hpin (by decide)) ⟨trivial, trivial⟩ (by decide))
  · intro v9 s9 x9 s_9 hf9
    unfold mixP_f at hf9
    refine sl_in ?_
    obtain ⟨p13, hp13, hf9_⟩ := bsplit hf9; replace hf9 := hf9_; clear hf9_
    refine sl_cons (Γ1 := [some (Pot.m nmPot (p13.2)), some (.im (D.tup ((items).map eX))), some (.li (((s9.2)).map eX)), some (.im x9), some (.im (D.int (p13.1)))]) (s_set (Γ1 := [some (Pot.m nmPot (p13.2)), some (.im (D.tup ((items).map eX))), some (.li (((s9.2)).map eX)), some (.im x9), none]) (m := (.im (D.int (p13.1)))) 4 sc_l_mixed.nd rfl (by first | exact Or.inl rfl | exact Or.inr rfl) (np1 hpin (by decide)) (ee_callX (k := 1) (G_l_draw.mono (by decide)) hr hG g_l_draw kp_l_draw b_l_draw (ea_cons (ee_tk 0 (pv 0)) (ea_cons (ee_add (ee_lenLE (enc := eX) g_len (ee_al 2 (pv 2)) (.al rfl)) ee_int) ea_nil)) ⟨(s9.1), ((((s9.2)).length : Int) + 1), p13, hp13, rfl, rfl, rfl⟩) ⟨trivial, trivial⟩) ?_
    obtain ⟨p14, hp14, hf9_⟩ := bsplit hf9; replace hf9 := hf9_; clear hf9_
    obtain ⟨p15, hp15, hf9_⟩ := bsplit hf9; replace hf9 := hf9_; clear hf9_
    refine sl_cons (Γ1 := [some (Pot.m nmPot (p13.2)), some (.im (D.tup ((items).map eX))), some (.li (((((cutL (s9.2) none (some (p13.1))) ++ ([x9] : (List D))) ++ (cutL (s9.2) (some (p13.1)) none))).map eX)), some (.im x9), some (.im (D.int (p13.1)))]) (s_set (Γ1 := [some (Pot.m nmPot (p13.2)), some (.im (D.tup ((items).map eX))), some (.li (((s9.2)).map eX)), some (.im x9), some (.im (D.int (p13.1)))]) (m := (.li (((((cutL (s9.2) none (some (p13.1))) ++ ([x9] : (List D))) ++ (cutL (s9.2) (some (p13.1)) none))).map eX))) 2 sc_l_mixed.nd rfl (by first | exact Or.inl rfl | exact Or.inr rfl) (np1 hpin (by decide)) (ee_catE (enc := eX) (ee_catE (enc := eX) (ee_slLE (enc := eX) (ee_al 2 (pv 2)) ep_none (ep_some (ee_var 4 (pv 4))) (.al rfl)) (ee_lst (ds := [x9]) (ea_cons (ee_var 3 (pv 3)) ea_nil) (show 1 ≤ 1000 by decide)) .own .own (gd_d hp14)) (ee_slLE (enc := eX) (ee_al 2 (pv 2)) (ep_some (ee_var 4 (pv 4))) ep_none (.al rfl)) .own .own (gd_d hp15)) ⟨trivial, trivial⟩) ?_
    replace hf9 := Option.some.inj hf9
    subst hf9
    exact sl_end ⟨rfl, ⟨rfl, ⟨rfl, trivial⟩⟩⟩
  replace h := Option.some.inj h
  subst h
  exact sl_exit (s_ret (Γ1 := [some (Pot.m nmPot (p16.1)), some (.im (D.tup ((items).map eX))), none, none, none]) (m := (.li (((p16.2)).map eX))) (ee_mv 2 (pv 2)) ⟨rfl, trivial⟩) rfl
theorem mixP_ok {P : Program} {w : World} {K : PySem.W.Frag} {mg : Str → Option Value} {base : Heap} {f : Addr} {fd : FuncData} (F : FnP K "_law_mixed" s_l_mixed f fd) {f_l_draw : Addr} {fd_l_draw : FuncData} (G_l_draw : FnG P w K mg base 1 f_l_draw fd_l_draw ["pot", "many"] (spR K 2 [0] drawPR)) (F_l_draw : FnP K "_law_draw" s_l_draw f_l_draw fd_l_draw) (g_l_draw : mg "_law_draw" = some (.ref f_l_draw)) (g_len : mg "len" = none) : FnG P w K mg base 2 f fd ["pot", "items"] (spR K 2 [0] mixPR) :=
  (mixP_okL F G_l_draw F_l_draw g_l_draw g_len).or (mixP_okT F G_l_draw F_l_draw g_l_draw g_len) fun vs H Q E ⟨ms, Fp, r, ms', h1, h2, ⟨pot, items, out, e, o, er, em⟩, h4⟩ => o.elim
    (fun o => .inl ⟨ms, Fp, r, ms', h1, h2, ⟨pot, items, out, e, by rw [o, map_eX], by rw [er, map_eX], em⟩, h4⟩)
    (fun o => .inr ⟨ms, Fp, r, ms', h1, h2, ⟨pot, items, out, e, by rw [o, map_eX], by rw [er, map_eX], em⟩, h4⟩)

/-! ### law_way -/
abbrev N_l_way : List Str := ["pot", "some", "size", "left", "found", "open_ones", "others", "room"]
theorem sc_l_way : FnScope N_l_way ["pot", "some", "size"] (defScope s_l_way) := ⟨rfl, rfl, rfl, by decide +kernel, rfl, by decide +kernel, by decide +kernel⟩
def l_way_L1c (some_p : (List Int)) (s : (Pot × Int × (List tStep) × (List Int))) : Bool := ((decide (0 < (s.2.1))) || (!((s.2.2.2)).isEmpty))
def l_way_L1 (some_p : (List Int)) (s : (Pot × Int × (List tStep) × (List Int))) : Option (Pot × Int × (List tStep) × (List Int)) := (gd (decide (((some_p)).length ≤ sizeLine))).bind fun p47 => (lcM (fun (t46 : Unit) (c46 : Int) => some ((), if (!(decide (c46 ∈ (s.2.2.2)))) = true then some c46 else none)) () (some_p)).bind fun p48 => (if (decide (0 < (s.2.1))) = true then ((if (!(p48.2).isEmpty) = true then ((if ((s.2.2.2)).isEmpty = true then (some (true, (s.1))) else ((drawP_m (s.1) 5).bind fun p52 => some ((decide (1 < (p52.1))), (p52.2)))).bind fun p53 => some ((p53.1), (p53.2))) else (some (false, (s.1)))).bind fun p54 => some ((p54.1), (p54.2))) else (some (false, (s.1)))).bind fun p55 => if (p55.1) = true then ((pickP_m (p55.2) p48.2).bind fun p57 => (gd (decide (((s.2.2.2)).length < sizeLine))).bind fun p58 => (gd (decide (((s.2.2.1)).length < sizeLine))).bind fun p59 => some (p57.2, ((s.2.1) - 1), ((s.2.2.1) ++ [(("in" : Str), p57.1)]), ((s.2.2.2) ++ [p57.1]))) else ((((s.2.2.2)).getLast?).bind fun p60 => (gd (decide (((s.2.2.1)).length < sizeLine))).bind fun p61 => some ((p55.2), (s.2.1), ((s.2.2.1) ++ [(("out" : Str), p60)]), ((s.2.2.2)).dropLast))
def l_way_m (pot : Pot) (some_p : (List Int)) (size : Int) : Option (tWay × Pot) := (drawP_m pot (size / 2)).bind fun p43 => (whS (l_way_L1c some_p) (l_way_L1 some_p) 100000 ((p43.2), (1 + (p43.1)), ([] : (List tStep)), ([] : (List Int)))).bind fun p79 => some ((p79.2.2.1), (p79.1))
abbrev l_wayR : List M → M → List M → Prop := fun ms r ms' => ∃ (pot : Pot) (some_p : (List Int)) (size : Int) (out : (tWay × Pot)), l_way_m pot some_p size = some out ∧ ms = [(Pot.m nmPot pot), (.im (D.lst ((some_p).map D.int))), (.im (D.int size))] ∧ r = (.im (D.tup (((out.1)).map eStep))) ∧ ms' = [(Pot.m nmPot (out.2))]
theorem l_way_ok {P : Program} {w : World} {K : PySem.W.Frag} {mg : Str → Option Value} {base : Heap} {f : Addr} {fd : FuncData} (F : FnP K "_law_way" s_l_way f fd) {f_l_draw : Addr} {fd_l_draw : FuncData} (G_l_draw : FnG P w K mg base 1 f_l_draw fd_l_draw ["pot", "many"] (spR K 2 [0] drawPR)) (F_l_draw : FnP K "_law_draw" s_l_draw f_l_draw fd_l_draw) (g_l_draw : mg "_law_draw" = some (.ref f_l_draw)) {f_l_pick : Addr} {fd_l_pick : FuncData} (G_l_pick : FnG P w K mg base 2 f_l_pick fd_l_pick ["pot", "items"] (spR K 2 [0] pickPR)) (F_l_pick : FnP K "_law_pick" s_l_pick f_l_pick fd_l_pick) (g_l_pick : mg "_law_pick" = some (.ref f_l_pick)) (g_tuple : mg "tuple" = none) : FnG P w K mg base 3 f fd ["pot", "some", "size"] (spR K 3 [0] l_wayR) := by
  refine fn_body (k := 2) F sc_l_way rfl (by decide) (by decide) (by decide) (by rintro ms r ms' ⟨pot, some_p, size, out, _, rfl, _, rfl⟩; exact ⟨rfl, rfl⟩) ?_
  rintro cdv A outer s H E H0 io pin mio hpin hr hG ms r ms' ⟨pot, some_p, size, out, h, rfl, rfl, rfl⟩
  refine ⟨[some (Pot.m nmPot (out.2)), none, none, none, none, none, none, none], ?_, fun k i m h1 h2 => match k, h1, h2 with | 0, h1, h2 => by cases h1; cases h2; rfl⟩
  unfold l_way_m at h
  refine sl_in ?_
  have kp_l_draw := F_l_draw.kp
  have b_l_draw : Binds K fd_l_draw ["pot", "many"] [] := F_l_draw.bindsN fun _ _ _ _ _ _ us hl => match us, hl with | [_, _], _ => rfl
  have kp_l_pick := F_l_pick.kp
  have b_l_pick : Binds K fd_l_pick ["pot", "items"] [] := F_l_pick.bindsN fun _ _ _ _ _ _ us hl => match us, hl with | [_, _], _ => rfl
  obtain ⟨p43, hp43, h_⟩ := bsplit h; replace h := h_; clear h_
  refine sl_cons (Γ1 := [some (Pot.m nmPot (p43.2)), some (.im (D.lst ((some_p).map D.int))), some (.im (D.int size)), some (.im (D.int (1 + (p43.1)))), some (.li ((([] : (List tStep))).map eStep)), some (.li ((([] : (List Int))).map D.int)), none, none]) (s_unp3 (Γ1 := [some (Pot.m nmPot (p43.2)), some (.im (D.lst ((some_p).map D.int))), some (.im (D.int size)), none, none, none, none, none]) (m1 := (.im (D.int (1 + (p43.1))))) (m2 := (.li ((([] : (List tStep))).map eStep))) (m3 := (.li ((([] : (List Int))).map D.int))) 3 4 5 rfl sc_l_way.nd rfl rfl rfl (by decide) (by decide) (by decide) (by first | exact Or.inl rfl | exact Or.inr rfl) (by first | exact Or.inl rfl | exact Or.inr rfl) (by first | exact Or.inl rfl | exact Or.inr rfl) (np1 hpin (by decide)) (np1 hpin (by decide)) (np1 hpin (by decide)) trivial trivial trivial (ea_cons (ee_add ee_int (ee_callX (k := 2) (G_l_draw.mono (by decide)) hr hG g_l_draw kp_l_draw b_l_draw (ea_cons (ee_tk 0 (pv 0)) (ea_cons (ee_fdivW ⟨by decide, by decide +kernel⟩ (ee_var 2 (pv 2)) ee_int) ea_nil)) ⟨pot, (size / 2), p43, hp43, rfl, rfl, rfl⟩)) (ea_cons (ee_lst (ds := []) ea_nil (show 0 ≤ 1000 by decide)) (ea_cons (ee_lst (ds := []) ea_nil (show 0 ≤ 1000 by decide)) ea_nil)))) ?_
  obtain ⟨p79, hp79, h_⟩ := bsplit h; replace h := h_; clear h_
  refine sl_cons (Γ1 := [some (Pot.m nmPot (p79.1)), some (.im (D.lst ((some_p).map D.int))), some (.im (D.int size)), some (.im (D.int (p79.2.1))), some (.li (((p79.2.2.1)).map eStep)), some (.li (((p79.2.2.2)).map D.int)), none, none]) (s_while (Γs := fun (s44 : (Pot × Int × (List tStep) × (List Int))) => [some (Pot.m nmPot (s44.1)), some (.im (D.lst ((some_p).map D.int))), some (.im (D.int size)), some (.im (D.int (s44.2.1))), some (.li (((s44.2.2.1)).map eStep)), some (.li (((s44.2.2.2)).map D.int)), none, none]) (s0 := ((p43.2), (1 + (p43.1)), ([] : (List tStep)), ([] : (List Int)))) (cb := (l_way_L1c some_p)) (f := (l_way_L1 some_p)) ?_ ?_ hp79) ?_
  · intro s44
    exact (ET.ofW (ew_orP (et_gt (ee_var 3 (pv 3)) ee_int) fun _ => (ew_or1 (et_neNilE (enc := D.int) hr.units (ee_al 5 (pv 5)) (.al rfl) (oks_map _ fun _ _ => rfl)))))
  · intro s44 s_44 hk44 hf44
    unfold l_way_L1 at hf44
    refine sl_in ?_
    obtain ⟨p64, hp64, hf44_⟩ := bsplit hf44; replace hf44 := hf44_; clear hf44_
    obtain ⟨p65, hp65, hf44_⟩ := bsplit hf44; replace hf44 := hf44_; clear hf44_
    refine sl_cons (Γ1 := [some (Pot.m nmPot (s44.1)), some (.im (D.lst ((some_p).map D.int))), some (.im (D.int size)), some (.im (D.int (s44.2.1))), some (.li (((s44.2.2.1)).map eStep)), some (.li (((s44.2.2.2)).map D.int)), some (.im (D.lst ((p65.2).map D.int))), none]) (s_lock 6 (Γ1 := [some (Pot.m nmPot (s44.1)), some (.im (D.lst ((some_p).map D.int))), some (.im (D.int size)), some (.im (D.int (s44.2.1))), some (.li (((s44.2.2.1)).map eStep)), some (.li (((s44.2.2.2)).map D.int)), some (.li ((p65.2).map D.int)), none]) (s_setLc 6 (s1 := p65.1) (ys := p65.2) (f := (fun (t63 : Unit) (c63 : Int) => some ((), if (!(decide (c63 ∈ (s44.2.2.2)))) = true then some c63 else none))) (enc := D.int) (eb := D.int) (xs := (some_p)) (s0 := ()) (hx := (fun v => .hid (.im (.lst ((some_p).map D.int))) v)) (cond := (fun _ => True)) (Γs := fun (t63 : Unit) => [some (Pot.m nmPot (s44.1)), some (.im (D.lst ((some_p).map D.int))), some (.im (D.int size)), some (.im (D.int (s44.2.1))), some (.li (((s44.2.2.1)).map eStep)), some (.li (((s44.2.2.2)).map D.int)), none, none]) (Γt := fun (t63 : Unit) (c63 : Int) => [some (Pot.m nmPot (s44.1)), some (.im (D.lst ((some_p).map D.int))), some (.im (D.int size)), some (.im (D.int (s44.2.1))), some (.li (((s44.2.2.1)).map eStep)), some (.li (((s44.2.2.2)).map D.int)), none, some (.im (D.int c63))]) (Γu := fun (t63 : Unit) (c63 : Int) => [some (Pot.m nmPot (s44.1)), some (.im (D.lst ((some_p).map D.int))), some (.im (D.int size)), some (.im (D.int (s44.2.1))), some (.li (((s44.2.2.1)).map eStep)), some (.li (((s44.2.2.2)).map D.int)), none, some (.im (D.int c63))]) (tb := (fun t63 c63 => (!(decide (c63 ∈ (s44.2.2.2)))))) rfl sc_l_way.nd rfl rfl (np1 hpin (by decide)) trivial (blkOk_by (own := [("room", 7)]) (N := N_l_way) (sc := defScope s_l_way) (by decide +kernel))
   { fx := Fix.hid, it := it_wk (Γ1 := [some (Pot.m nmPot (s44.1)), some (.im (D.lst ((some_p).map D.int))), some (.im (D.int size)), some (.im (D.int (s44.2.1))), some (.li (((s44.2.2.1)).map eStep)), some (.li (((s44.2.2.2)).map D.int)), none, none]) (it_lstF (ee_var 1 (pv 1))) ⟨rfl, ⟨rfl, ⟨rfl, ⟨rfl, ⟨rfl, ⟨rfl, trivial⟩⟩⟩⟩⟩⟩, cd := fun _ => trivial, gt := fun s H Ca cl fp v q acc t63 c63 => (gt_name 7 sc_l_way.nd rfl (by first | exact Or.inl rfl | exact Or.inr rfl) (np1 hpin (by decide)) ⟨trivial, ⟨trivial, trivial⟩⟩ (by decide)), tt := fun s H Ca cl fp v q acc t63 c63 _ => tests1 (et_ninI (ee_var 7 (pv 7)) (ee_al 5 (pv 5)) (.l (.al rfl))),
        el := fun s H Ca cl fp v q acc t63 c63 st' y hk hf => by
            rw [if_t hk] at hf; obtain ⟨hf1, hf2⟩ := Prod.mk.inj (Option.some.inj hf); subst hf1; replace hf2 := Option.some.inj hf2; subst hf2; exact ee_wk (Γ1 := [some (Pot.m nmPot (s44.1)), some (.im (D.lst ((some_p).map D.int))), some (.im (D.int size)), some (.im (D.int (s44.2.1))), some (.li (((s44.2.2.1)).map eStep)), some (.li (((s44.2.2.2)).map D.int)), none, some (.im (D.int c63))]) (ee_var 7 (pv 7)) ⟨rfl, ⟨rfl, ⟨rfl, ⟨rfl, ⟨rfl, ⟨rfl, trivial⟩⟩⟩⟩⟩⟩,
        ft := fun t63 c63 r hk hf => by cases hf; exact ⟨_, if_t hk⟩,
        ff := fun t63 c63 r hk hf => by cases hf; exact ⟨if_f hk, ⟨rfl, ⟨rfl, ⟨rfl, ⟨rfl, ⟨rfl, ⟨rfl, trivial⟩⟩⟩⟩⟩⟩⟩, br := fun _ => (bare_cons rfl bare_nil), fr := (freeJ_cons trivial freeJ_nil), fh := fun v => (freeJ_cons ⟨trivial, trivial⟩ freeJ_nil), pn := pnJ hpin (by decide), ln := (gd_d hp64) }
   hp65 (sw_true rfl rfl rfl (by decide +kernel))) rfl) ?_
    obtain ⟨p72, hp72, hf44_⟩ := bsplit hf44; replace hf44 := hf44_; clear hf44_
    rcases Bool.eq_false_or_eq_true ((p72.1)) with hk73 | hk73
    · replace hf44 := (if_t hk73).symm.trans hf44
      refine sl_ift (ET.ofW (ew_and (Γ' := [some (Pot.m nmPot (p72.2)), some (.im (D.lst ((some_p).map D.int))), some (.im (D.int size)), some (.im (D.int (s44.2.1))), some (.li (((s44.2.2.1)).map eStep)), some (.li (((s44.2.2.2)).map D.int)), some (.im (D.lst ((p65.2).map D.int))), none]) (k := (p72.1)) (et_gt (ee_var 3 (pv 3)) ee_int) (fun hk => by
            have e66 := (if_t hk).symm.trans hp72; obtain ⟨p71, hp71, e66_⟩ := bsplit e66; replace e66 := e66_; clear e66_; replace e66 := Option.some.inj e66; subst e66; exact (ew_and (Γ' := [some (Pot.m nmPot (p71.2)), some (.im (D.lst ((some_p).map D.int))), some (.im (D.int size)), some (.im (D.int (s44.2.1))), some (.li (((s44.2.2.1)).map eStep)), some (.li (((s44.2.2.2)).map D.int)), some (.im (D.lst ((p65.2).map D.int))), none]) (k := (p71.1)) (et_neNilE (enc := D.int) hr.units (ee_var 6 (pv 6)) .fz (oks_map _ fun _ _ => rfl)) (fun hk => by
            have e67 := (if_t hk).symm.trans hp71; obtain ⟨p70, hp70, e67_⟩ := bsplit e67; replace e67 := e67_; clear e67_; replace e67 := Option.some.inj e67; subst e67; exact (ew_and1 (ET.ofW (ew_or (Γ' := [some (Pot.m nmPot (p70.2)), some (.im (D.lst ((some_p).map D.int))), some (.im (D.int size)), some (.im (D.int (s44.2.1))), some (.li (((s44.2.2.1)).map eStep)), some (.li (((s44.2.2.2)).map D.int)), some (.im (D.lst ((p65.2).map D.int))), none]) (k := (p70.1)) (et_eqNilE (enc := D.int) hr.units (ee_al 5 (pv 5)) (.al rfl) (oks_map _ fun _ _ => rfl)) (fun hk => by
            have e68 := (if_f hk).symm.trans hp70; obtain ⟨p69, hp69, e68_⟩ := bsplit e68; replace e68 := e68_; clear e68_; replace e68 := Option.some.inj e68; subst e68; exact (ew_or1 (et_gt (ee_callX (k := 2) (G_l_draw.mono (by decide)) hr hG g_l_draw kp_l_draw b_l_draw (ea_cons (ee_tk 0 (pv 0)) (ea_cons ee_int ea_nil)) ⟨(s44.1), 5, p69, hp69, rfl, rfl, rfl⟩) ee_int))) (fun hk => by have hq := (if_t hk).symm.trans hp70; cases hq; exact ⟨rfl, rfl⟩))))) (fun hk => by have hq := (if_f hk).symm.trans hp71; cases hq; exact ⟨rfl, rfl⟩))) (fun hk => by have hq := (if_f hk).symm.trans hp72; cases hq; exact ⟨rfl, rfl⟩))) hk73 ?_
      obtain ⟨p74, hp74, hf44_⟩ := bsplit hf44; replace hf44 := hf44_; clear hf44_
      refine sl_cons (Γ1 := [some (Pot.m nmPot p74.2), some (.im (D.lst ((some_p).map D.int))), some (.im (D.int size)), some (.im (D.int ((s44.2.1) - 1))), some (.li (((s44.2.2.1)).map eStep)), some (.li (((s44.2.2.2)).map D.int)), some (.im (D.lst ((p65.2).map D.int))), some (.im (D.int p74.1))]) (s_par2 (Γ1 := [some (Pot.m nmPot p74.2), some (.im (D.lst ((some_p).map D.int))), some (.im (D.int size)), some (.im (D.int (s44.2.1))), some (.li (((s44.2.2.1)).map eStep)), some (.li (((s44.2.2.2)).map D.int)), some (.im (D.lst ((p65.2).map D.int))), none]) (m1 := (.im (D.int p74.1))) (m2 := (.im (D.int ((s44.2.1) - 1)))) 7 3 rfl sc_l_way.nd rfl rfl (by decide) rfl rfl (np1 hpin (by decide)) (np1 hpin (by decide)) trivial trivial (ea_cons (ee_callX (k := 2) (G_l_pick.mono (by decide)) hr hG g_l_pick kp_l_pick b_l_pick (ea_cons (ee_tk 0 (pv 0)) (ea_cons (ee_var 6 (pv 6)) ea_nil)) ⟨(p72.2), (p65.2).map D.int, ((D.int p74.1), p74.2), pickP_map D.int hp74, .inl rfl, rfl, rfl⟩) (ea_cons (ee_sub (ee_var 3 (pv 3)) ee_int) ea_nil))) ?_
      obtain ⟨p75, hp75, hf44_⟩ := bsplit hf44; replace hf44 := hf44_; clear hf44_
      refine sl_cons (Γ1 := [some (Pot.m nmPot p74.2), some (.im (D.lst ((some_p).map D.int))), some (.im (D.int size)), some (.im (D.int ((s44.2.1) - 1))), some (.li (((s44.2.2.1)).map eStep)), some (.li ((((s44.2.2.2) ++ [p74.1])).map D.int)), some (.im (D.lst ((p65.2).map D.int))), some (.im (D.int p74.1))]) (s_expr (t := .own (.im D.non)) (ee_appendE (Γ1 := [some (Pot.m nmPot p74.2), some (.im (D.lst ((some_p).map D.int))), some (.im (D.int size)), some (.im (D.int ((s44.2.1) - 1))), some (.li (((s44.2.2.1)).map eStep)), some (.li (((s44.2.2.2)).map D.int)), some (.im (D.lst ((p65.2).map D.int))), some (.im (D.int p74.1))]) (enc := D.int) (x := p74.1) 5 (pv 5) rfl (ee_var 7 (pv 7)) rfl (gd_d hp75))) ?_
      obtain ⟨p76, hp76, hf44_⟩ := bsplit hf44; replace hf44 := hf44_; clear hf44_
      refine sl_cons (Γ1 := [some (Pot.m nmPot p74.2), some (.im (D.lst ((some_p).map D.int))), some (.im (D.int size)), some (.im (D.int ((s44.2.1) - 1))), some (.li ((((s44.2.2.1) ++ [(("in" : Str), p74.1)])).map eStep)), some (.li ((((s44.2.2.2) ++ [p74.1])).map D.int)), some (.im (D.lst ((p65.2).map D.int))), some (.im (D.int p74.1))]) (s_expr (t := .own (.im D.non)) (ee_appendE (Γ1 := [some (Pot.m nmPot p74.2), some (.im (D.lst ((some_p).map D.int))), some (.im (D.int size)), some (.im (D.int ((s44.2.1) - 1))), some (.li (((s44.2.2.1)).map eStep)), some (.li ((((s44.2.2.2) ++ [p74.1])).map D.int)), some (.im (D.lst ((p65.2).map D.int))), some (.im (D.int p74.1))]) (enc := eStep) (x := (("in" : Str), p74.1)) 4 (pv 4) rfl (ee_tup (ds := [(D.str ("in" : Str)), (D.int p74.1)]) (ea_cons ee_str (ea_cons (ee_var 7 (pv 7)) ea_nil)) (show 2 ≤ 1000 by decide)) rfl (gd_d hp76))) ?_
      refine sl_pop ?_
      replace hf44 := Option.some.inj hf44
      subst hf44
      exact sl_end ⟨rfl, ⟨rfl, ⟨rfl, ⟨rfl, ⟨rfl, ⟨rfl, trivial⟩⟩⟩⟩⟩⟩
    · replace hf44 := (if_f hk73).symm.trans hf44
      refine sl_iff (ET.ofW (ew_and (Γ' := [some (Pot.m nmPot (p72.2)), some (.im (D.lst ((some_p).map D.int))), some (.im (D.int size)), some (.im (D.int (s44.2.1))), some (.li (((s44.2.2.1)).map eStep)), some (.li (((s44.2.2.2)).map D.int)), some (.im (D.lst ((p65.2).map D.int))), none]) (k := (p72.1)) (et_gt (ee_var 3 (pv 3)) ee_int) (fun hk => by
            have e66 := (if_t hk).symm.trans hp72; obtain ⟨p71, hp71, e66_⟩ := bsplit e66; replace e66 := e66_; clear e66_; replace e66 := Option.some.inj e66; subst e66; exact (ew_and (Γ' := [some (Pot.m nmPot (p71.2)), some (.im (D.lst ((some_p).map D.int))), some (.im (D.int size)), some (.im (D.int (s44.2.1))), some (.li (((s44.2.2.1)).map eStep)), some (.li (((s44.2.2.2)).map D.int)), some (.im (D.lst ((p65.2).map D.int))), none]) (k := (p71.1)) (et_neNilE (enc := D.int) hr.units (ee_var 6 (pv 6)) .fz (oks_map _ fun _ _ => rfl)) (fun hk => by
            have e67 := (if_t hk).symm.trans hp71; obtain ⟨p70, hp70, e67_⟩ := bsplit e67; replace e67 := e67_; clear e67_; replace e67 := Option.some.inj e67; subst e67; exact (ew_and1 (ET.ofW (ew_or (Γ' := [some (Pot.m nmPot (p70.2)), some (.im (D.lst ((some_p).map D.int))), some (.im (D.int size)), some (.im (D.int (s44.2.1))), some (.li (((s44.2.2.1)).map eStep)), some (.li (((s44.2.2.2)).map D.int)), some (.im (D.lst ((p65.2).map D.int))), none]) (k := (p70.1)) (et_eqNilE (enc := D.int) hr.units (ee_al 5 (pv 5)) (.al rfl) (oks_map _ fun _ _ => rfl)) (fun hk => by
            have e68 := (if_f hk).symm.trans hp70; obtain ⟨p69, hp69, e68_⟩ := bsplit e68; replace e68 := e68_; clear e68_; replace e68 := Option.some.inj e68; subst e68; exact (ew_or1 (et_gt (ee_callX (k := 2) (G_l_draw.mono (by decide)) hr hG g_l_draw kp_l_draw b_l_draw (ea_cons (ee_tk 0 (pv 0)) (ea_cons ee_int ea_nil)) ⟨(s44.1), 5, p69, hp69, rfl, rfl, rfl⟩) ee_int))) (fun hk => by have hq := (if_t hk).symm.trans hp70; cases hq; exact ⟨rfl, rfl⟩))))) (fun hk => by have hq := (if_f hk).symm.trans hp71; cases hq; exact ⟨rfl, rfl⟩))) (fun hk => by have hq := (if_f hk).symm.trans hp72; cases hq; exact ⟨rfl, rfl⟩))) hk73 ?_
      obtain ⟨p77, hp77, hf44_⟩ := bsplit hf44; replace hf44 := hf44_; clear hf44_
      obtain ⟨p78, hp78, hf44_⟩ := bsplit hf44; replace hf44 := hf44_; clear hf44_
      refine sl_cons (Γ1 := [some (Pot.m nmPot (p72.2)), some (.im (D.lst ((some_p).map D.int))), some (.im (D.int size)), some (.im (D.int (s44.2.1))), some (.li ((((s44.2.2.1) ++ [(("out" : Str), p77)])).map eStep)), some (.li ((((s44.2.2.2)).dropLast).map D.int)), some (.im (D.lst ((p65.2).map D.int))), none]) (s_expr (t := .own (.im D.non)) (ee_appendE (Γ1 := [some (Pot.m nmPot (p72.2)), some (.im (D.lst ((some_p).map D.int))), some (.im (D.int size)), some (.im (D.int (s44.2.1))), some (.li (((s44.2.2.1)).map eStep)), some (.li ((((s44.2.2.2)).dropLast).map D.int)), some (.im (D.lst ((p65.2).map D.int))), none]) (enc := eStep) (x := (("out" : Str), p77)) 4 (pv 4) rfl (ee_tup (ds := [(D.str ("out" : Str)), (D.int p77)]) (ea_cons ee_str (ea_cons (ee_popE (enc := D.int) 5 (pv 5) rfl hp77) ea_nil)) (show 2 ≤ 1000 by decide)) rfl (gd_d hp78))) ?_
      refine sl_pop ?_
      replace hf44 := Option.some.inj hf44
      subst hf44
      exact sl_end ⟨rfl, ⟨rfl, ⟨rfl, ⟨rfl, ⟨rfl, ⟨rfl, trivial⟩⟩⟩⟩⟩⟩
  replace h := Option.some.inj h
  subst h
  exact sl_exit (s_ret (Γ1 := [some (Pot.m nmPot (p79.1)), some (.im (D.lst ((some_p).map D.int))), some (.im (D.int size)), some (.im (D.int (p79.2.1))), some (.li (((p79.2.2.1)).map eStep)), some (.li (((p79.2.2.2)).map D.int)), none, none]) (m := (.im (D.tup (((p79.2.2.1)).map eStep)))) (ee_tupOf (ds := List.map eStep (p79.2.2.1)) g_tuple (ee_al 4 (pv 4)) (.al rfl)) ⟨rfl, trivial⟩) rfl
/-! ### law_door -/
abbrev N_l_door : List Str := ["pot", "many", "words", "table", "i", "j", "pair", "rows", "hand", "row"]
theorem sc_l_door : FnScope N_l_door ["pot", "many", "words"] (defScope s_l_door) := ⟨rfl, rfl, rfl, by decide +kernel, rfl, by decide +kernel, by decide +kernel⟩
def l_door_L2 (words : (List tPair)) (i : Int) (s : (Pot × (List (List Str)))) (x : Int) : Option (Pot × (List (List Str))) := (pickP_m (s.1) words).bind fun p96 => (mixP_m p96.2 ([(p96.1.1), (p96.1.2)] : tRow)).bind fun p97 => (two p97.1).bind fun p98 => (setT (s.2) i x (p98.1)).bind fun p99 => (setT p99 x i (p98.2)).bind fun p100 => some (p97.2, p100)
def l_door_L1 (many : Int) (words : (List tPair)) (s : (Pot × (List (List Str)))) (x : Int) : Option (Pot × (List (List Str))) := (gd (decide (-(2 ^ 62) ≤ (x + 1)))).bind fun p91 => (gd (decide ((x + 1) < 2 ^ 62))).bind fun p92 => (gd (decide (-(2 ^ 62) ≤ many))).bind fun p93 => (gd (decide (many < 2 ^ 62))).bind fun p94 => (forS (l_door_L2 words x) ((s.1), (s.2)) (rng (x + 1) many)).bind fun p106 => some ((p106.1), (p106.2))
def l_door_m (pot : Pot) (many : Int) (words : (List tPair)) : Option (tDoor × Pot) := (gd (decide (-(2 ^ 62) ≤ many))).bind fun p80 => (gd (decide (many < 2 ^ 62))).bind fun p81 => (gd (decide (((rng 0 many)).length ≤ sizeLine))).bind fun p82 => (gd (decide (0 ≤ many))).bind fun p85 => (gd (decide (many ≤ 1000))).bind fun p86 => (some (((rng 0 many)).map fun _ => (List.replicate (many : Int).toNat ("-" : Str)))).bind fun p87 => (gd (decide (-(2 ^ 62) ≤ many))).bind fun p88 => (gd (decide (many < 2 ^ 62))).bind fun p89 => (forS (l_door_L1 many words) (pot, p87) (rng 0 many)).bind fun p123 => (gd (decide ((((p123.2))).length ≤ sizeLine))).bind fun p125 => (lcM (fun (t124 : Unit) (c124 : (List Str)) => some ((), some c124)) () ((p123.2))).bind fun p126 => (gd (decide (-(2 ^ 62) ≤ many))).bind fun p128 => (gd (decide (many < 2 ^ 62))).bind fun p129 => (gd (decide (((rng 0 many)).length ≤ sizeLine))).bind fun p130 => (lcM (fun (t127 : Pot) (c127 : Int) => (gd (decide (-(2 ^ 62) ≤ many))).bind fun p132 => (gd (decide (many < 2 ^ 62))).bind fun p133 => (gd (decide (((rng 0 many)).length ≤ sizeLine))).bind fun p134 => (lcM (fun (t131 : Unit) (c131 : Int) => some ((), if (!(decide (c131 = c127))) = true then some c131 else none)) () (rng 0 many)).bind fun p135 => (mixP_m t127 p135.2).bind fun p136 => some (p136.2, some p136.1)) (p123.1) (rng 0 many)).bind fun p137 => some ((p126.2, p137.2), (p137.1))
abbrev l_doorR : List M → M → List M → Prop := fun ms r ms' => ∃ (pot : Pot) (many : Int) (words : (List tPair)) (out : (tDoor × Pot)), l_door_m pot many words = some out ∧ ms = [(Pot.m nmPot pot), (.im (D.int many)), (.im (D.lst ((words).map ePair)))] ∧ r = (.im (eDoor (out.1))) ∧ ms' = [(Pot.m nmPot (out.2))]
theorem l_door_ok {P : Program} {w : World} {K : PySem.W.Frag} {mg : Str → Option Value} {base : Heap} {f : Addr} {fd : FuncData} (F : FnP K "_law_door" s_l_door f fd) {f_l_pick : Addr} {fd_l_pick : FuncData} (G_l_pick : FnG P w K mg base 2 f_l_pick fd_l_pick ["pot", "items"] (spR K 2 [0] pickPR)) (F_l_pick : FnP K "_law_pick" s_l_pick f_l_pick fd_l_pick) (g_l_pick : mg "_law_pick" = some (.ref f_l_pick)) {f_l_mixed : Addr} {fd_l_mixed : FuncData} (G_l_mixed : FnG P w K mg base 2 f_l_mixed fd_l_mixed ["pot", "items"] (spR K 2 [0] mixPR)) (F_l_mixed : FnP K "_law_mixed" s_l_mixed f_l_mixed fd_l_mixed) (g_l_mixed : mg "_law_mixed" = some (.ref f_l_mixed)) (g_range : mg "range" = none) (g_tuple : mg "tuple" = none) : FnG P w K mg base 3 f fd ["pot", "many", "words"] (spR K 3 [0] l_doorR) := by
  refine fn_body (k := 2) F sc_l_door rfl (by decide) (by decide) (by decide) (by rintro ms r ms' ⟨pot, many, words, out, _, rfl, _, rfl⟩; exact ⟨rfl, rfl⟩) ?_
  rintro cdv A outer s H E H0 io pin mio hpin hr hG ms r ms' ⟨pot, many, words, out, h, rfl, rfl, rfl⟩
  refine ⟨[some (Pot.m nmPot (out.2)), none, none, none, none, none, none, none, none, none], ?_, fun k i m h1 h2 => match k, h1, h2 with | 0, h1, h2 => by cases h1; cases h2; rfl⟩
  unfold l_door_m at h
  refine sl_in ?_
  have kp_l_pick := F_l_pick.kp
  have b_l_pick : Binds K fd_l_pick ["pot", "items"] [] := F_l_pick.bindsN fun _ _ _ _ _ _ us hl => match us, hl with | [_, _], _ => rfl
  have kp_l_mixed := F_l_mixed.kp
  have b_l_mixed : Binds K fd_l_mixed ["pot", "items"] [] := F_l_mixed.bindsN fun _ _ _ _ _ _ us hl => match us, hl with | [_, _], _ => rfl
  obtain ⟨p80, hp80, h_⟩ := bsplit h; replace h := h_; clear h_
  obtain ⟨p81, hp81, h_⟩ := bsplit h; replace h := h_; clear h_
  obtain ⟨p82, hp82, h_⟩ := bsplit h; replace h := h_; clear h_
  obtain ⟨p85, hp85, h_⟩ := bsplit h; replace h := h_; clear h_
  obtain ⟨p86, hp86, h_⟩ := bsplit h; replace h := h_; clear h_
  obtain ⟨p87, hp87, h_⟩ := bsplit h; replace h := h_; clear h_
  refine sl_cons (Γ1 := [some (Pot.m nmPot pot), some (.im (D.int many)), some (.im (D.lst ((words).map ePair))), some (tbl D.str p87), none, none, none, none, none, none]) (s1_tbl (Γ0 := [some (Pot.m nmPot pot), some (.im (D.int many)), some (.im (D.lst ((words).map ePair))), none, none, none, none, none, none, none]) (i := 3) (f := D.str) (r := (List.replicate (many : Int).toNat ("-" : Str))) (xs := (rng 0 many)) (rows := p87) (Option.some.inj hp87) (s_setLcL 3 (enc := D.int) (mr := (fun (_ : Int) => (.li (((List.replicate (many : Int).toNat ("-" : Str))).map D.str)))) (xs := (rng 0 many)) (hx := (fun v => .hid (.im .non) v)) (cond := (fun _ => True)) (Γ0 := [some (Pot.m nmPot pot), some (.im (D.int many)), some (.im (D.lst ((words).map ePair))), none, none, none, none, none, none, none]) (Γt := fun (x : Int) => [some (Pot.m nmPot pot), some (.im (D.int many)), some (.im (D.lst ((words).map ePair))), none, none, none, none, none, some (.im (D.int x)), none]) rfl sc_l_door.nd rfl rfl (np1 hpin (by decide)) trivial (blkOk_by (own := [("hand", 8)]) (N := N_l_door) (sc := defScope s_l_door) (by decide +kernel))
   { fx := Fix.hid, it := it_wk (Γ1 := [some (Pot.m nmPot pot), some (.im (D.int many)), some (.im (D.lst ((words).map ePair))), none, none, none, none, none, none, none]) (it_rng1 g_range (ee_var 1 (pv 1)) (gd_d hp80) (gd_d hp81)) ⟨rfl, ⟨rfl, ⟨rfl, trivial⟩⟩⟩, cd := trivial, gt := fun s H Ca cl fp v q acc x => (gt_name 8 sc_l_door.nd rfl (by first | exact Or.inl rfl | exact Or.inr rfl) (np1 hpin (by decide)) ⟨trivial, ⟨trivial, trivial⟩⟩ (by decide)),
        el := fun s H Ca cl fp v q acc x => ee_wk (Γ1 := [some (Pot.m nmPot pot), some (.im (D.int many)), some (.im (D.lst ((words).map ePair))), none, none, none, none, none, some (.im (D.int x)), none]) (ee_repLE (enc := D.str) (x := ("-" : Str)) (ee_lst (ds := [(D.str ("-" : Str))]) (ea_cons ee_str ea_nil) (show 1 ≤ 1000 by decide)) (ee_var 1 (pv 1)) (gd_d hp85) (gd_d hp86)) ⟨rfl, ⟨rfl, ⟨rfl, trivial⟩⟩⟩, br := (bare_cons rfl bare_nil), fr := (freeJ_cons trivial freeJ_nil), fh := fun v => (freeJ_cons ⟨trivial, trivial⟩ freeJ_nil), pn := pnJ hpin (by decide), ln := (gd_d hp82) } (sw_true rfl rfl rfl (by decide +kernel)))) ?_
  obtain ⟨p88, hp88, h_⟩ := bsplit h; replace h := h_; clear h_
  obtain ⟨p89, hp89, h_⟩ := bsplit h; replace h := h_; clear h_
  obtain ⟨p123, hp123, h_⟩ := bsplit h; replace h := h_; clear h_
  refine sl_cons (Γ1 := [some (Pot.m nmPot (p123.1)), some (.im (D.int many)), some (.im (D.lst ((words).map ePair))), some (tbl D.str (p123.2)), none, none, none, none, none, none]) (s_for (J := [4]) (enc := D.int) (xs := (rng 0 many)) (hx := (fun v => .hid (.im .non) v)) (cond := (fun _ => True)) (f := (l_door_L1 many words)) (s0 := (pot, p87)) (Γs := fun (s90 : (Pot × (List (List Str)))) => [some (Pot.m nmPot (s90.1)), some (.im (D.int many)), some (.im (D.lst ((words).map ePair))), some (tbl D.str (s90.2)), none, none, none, none, none, none]) (Γt := fun (s90 : (Pot × (List (List Str)))) (x90 : Int) => [some (Pot.m nmPot (s90.1)), some (.im (D.int many)), some (.im (D.lst ((words).map ePair))), some (tbl D.str (s90.2)), some (.im (D.int x90)), none, none, none, none, none]) rfl Fix.hid (it_wk (Γ1 := [some (Pot.m nmPot pot), some (.im (D.int many)), some (.im (D.lst ((words).map ePair))), some (tbl D.str p87), none, none, none, none, none, none]) (it_rng1 g_range (ee_var 1 (pv 1)) (gd_d hp88) (gd_d hp89)) ⟨rfl, ⟨rfl, ⟨rfl, ⟨rfl, trivial⟩⟩⟩⟩) (fun _ => trivial) ?_ ?_ hp123) ?_
  · intro v90 s90 x90
    exact (gt_name 4 sc_l_door.nd rfl (by first | exact Or.inl rfl | exact Or.inr rfl) (np1 hpin (by decide)) ⟨trivial, trivial⟩ (by decide))
  · intro v90 s90 x90 s_90 hf90
    unfold l_door_L1 at hf90
    refine sl_in ?_
    obtain ⟨p107, hp107, hf90_⟩ := bsplit hf90; replace hf90 := hf90_; clear hf90_
    obtain ⟨p108, hp108, hf90_⟩ := bsplit hf90; replace hf90 := hf90_; clear hf90_
    obtain ⟨p109, hp109, hf90_⟩ := bsplit hf90; replace hf90 := hf90_; clear hf90_
    obtain ⟨p110, hp110, hf90_⟩ := bsplit hf90; replace hf90 := hf90_; clear hf90_
    obtain ⟨p122, hp122, hf90_⟩ := bsplit hf90; replace hf90 := hf90_; clear hf90_
    refine sl_cons (Γ1 := [some (Pot.m nmPot (p122.1)), some (.im (D.int many)), some (.im (D.lst ((words).map ePair))), some (tbl D.str (p122.2)), some (.im (D.int x90)), none, none, none, none, none]) (s_for (J := [5]) (enc := D.int) (xs := (rng (x90 + 1) many)) (hx := (fun v => .hid (.im .non) v)) (cond := (fun _ => True)) (f := (l_door_L2 words x90)) (s0 := ((s90.1), (s90.2))) (Γs := fun (s111 : (Pot × (List (List Str)))) => [some (Pot.m nmPot (s111.1)), some (.im (D.int many)), some (.im (D.lst ((words).map ePair))), some (tbl D.str (s111.2)), some (.im (D.int x90)), none, none, none, none, none]) (Γt := fun (s111 : (Pot × (List (List Str)))) (x111 : Int) => [some (Pot.m nmPot (s111.1)), some (.im (D.int many)), some (.im (D.lst ((words).map ePair))), some (tbl D.str (s111.2)), some (.im (D.int x90)), some (.im (D.int x111)), none, none, none, none]) rfl Fix.hid (it_wk (Γ1 := [some (Pot.m nmPot (s90.1)), some (.im (D.int many)), some (.im (D.lst ((words).map ePair))), some (tbl D.str (s90.2)), some (.im (D.int x90)), none, none, none, none, none]) (it_rng2 g_range (ee_add (ee_var 4 (pv 4)) ee_int) (ee_var 1 (pv 1)) (gd_d hp107) (gd_d hp108) (gd_d hp109) (gd_d hp110)) ⟨rfl, ⟨rfl, ⟨rfl, ⟨rfl, ⟨rfl, trivial⟩⟩⟩⟩⟩) (fun _ => trivial) ?_ ?_ hp122) ?_
    · intro v111 s111 x111
      exact (gt_name 5 sc_l_door.nd rfl (by first | exact Or.inl rfl | exact Or.inr rfl) (np1 hpin (by decide)) ⟨trivial, ⟨trivial, trivial⟩⟩ (by decide))
    · intro v111 s111 x111 s_111 hf111
      unfold l_door_L2 at hf111
      refine sl_in ?_
      obtain ⟨p117, hp117, hf111_⟩ := bsplit hf111; replace hf111 := hf111_; clear hf111_
      refine sl_cons (Γ1 := [some (Pot.m nmPot p117.2), some (.im (D.int many)), some (.im (D.lst ((words).map ePair))), some (tbl D.str (s111.2)), some (.im (D.int x90)), some (.im (D.int x111)), some (.im (ePair p117.1)), none, none, none]) (s_set (Γ1 := [some (Pot.m nmPot p117.2), some (.im (D.int many)), some (.im (D.lst ((words).map ePair))), some (tbl D.str (s111.2)), some (.im (D.int x90)), some (.im (D.int x111)), none, none, none, none]) (m := (.im (ePair p117.1))) 6 sc_l_door.nd rfl (by first | exact Or.inl rfl | exact Or.inr rfl) (np1 hpin (by decide)) (ee_callX (k := 2) (G_l_pick.mono (by decide)) hr hG g_l_pick kp_l_pick b_l_pick (ea_cons (ee_tk 0 (pv 0)) (ea_cons (ee_var 2 (pv 2)) ea_nil)) ⟨(s111.1), (words).map ePair, ((ePair p117.1), p117.2), pickP_map ePair hp117, .inl rfl, rfl, rfl⟩) ⟨trivial, ⟨trivial, trivial⟩⟩) ?_
      obtain ⟨p118, hp118, hf111_⟩ := bsplit hf111; replace hf111 := hf111_; clear hf111_
      obtain ⟨p119, hp119, hf111_⟩ := bsplit hf111; replace hf111 := hf111_; clear hf111_
      obtain ⟨p120, hp120, hf111_⟩ := bsplit hf111; replace hf111 := hf111_; clear hf111_
      obtain ⟨p121, hp121, hf111_⟩ := bsplit hf111; replace hf111 := hf111_; clear hf111_
      refine sl_cons (Γ1 := [some (Pot.m nmPot p118.2), some (.im (D.int many)), some (.im (D.lst ((words).map ePair))), some (tbl D.str p121), some (.im (D.int x90)), some (.im (D.int x111)), some (.im (ePair p117.1)), none, none, none]) (s_unpU (Γ1 := [some (Pot.m nmPot p118.2), some (.im (D.int many)), some (.im (D.lst ((words).map ePair))), some (tbl D.str (s111.2)), some (.im (D.int x90)), some (.im (D.int x111)), some (.im (ePair p117.1)), none, none, none]) (ee_two (enc := D.str) (ee_lock (ee_callX (k := 2) (G_l_mixed.mono (by decide)) hr hG g_l_mixed kp_l_mixed b_l_mixed (ea_cons (ee_tk 0 (pv 0)) (ea_cons (ee_to (d2 := (D.tup ((([(p117.1.1), (p117.1.2)] : tRow)).map D.str))) (ee_var 6 (pv 6)) rfl) ea_nil)) ⟨p117.2, (([(p117.1.1), (p117.1.2)] : tRow)).map D.str, ((p118.1).map D.str, p118.2), mixP_map D.str hp118, .inr rfl, rfl, rfl⟩)) hp119) (gu_lst rfl (gus_cons (gu_cell (f := D.str) (x := (p119.1)) 3 (pv 3) rfl (eq_var 4 (pv 4)) (eq_var 5 (pv 5)) hp120) (gus_cons (gu_cell (f := D.str) (x := (p119.2)) 3 (pv 3) rfl (eq_var 5 (pv 5)) (eq_var 4 (pv 4)) hp121) gus_nil)))) ?_
      replace hf111 := Option.some.inj hf111
      subst hf111
      exact sl_end ⟨rfl, ⟨rfl, ⟨rfl, ⟨rfl, ⟨rfl, trivial⟩⟩⟩⟩⟩
    replace hf90 := Option.some.inj hf90
    subst hf90
    exact sl_end ⟨rfl, ⟨rfl, ⟨rfl, ⟨rfl, trivial⟩⟩⟩⟩
  refine sl_map (fun _ => ss_lockT 3 (f := D.str) (rows := (p123.2)) rfl) ?_
  refine sl_ctx (Γ1 := [some (Pot.m nmPot (p123.1)), some (.im (D.int many)), some (.im (D.lst ((words).map ePair))), some (.im (D.lst (((p123.2)).map (eFL D.str)))), none, none, none, none, none, none]) rfl ?_
  obtain ⟨p125, hp125, h_⟩ := bsplit h; replace h := h_; clear h_
  obtain ⟨p126, hp126, h_⟩ := bsplit h; replace h := h_; clear h_
  refine sl_cons (Γ1 := [some (Pot.m nmPot (p123.1)), some (.im (D.int many)), some (.im (D.lst ((words).map ePair))), some (.im (D.lst (((p123.2)).map (eFL D.str)))), none, none, none, some (.im (D.tup ((p126.2).map eRow))), none, none]) (s_set (Γ1 := [some (Pot.m nmPot (p123.1)), some (.im (D.int many)), some (.im (D.lst ((words).map ePair))), some (.im (D.lst (((p123.2)).map (eFL D.str)))), none, none, none, none, none, none]) (m := (.im (D.tup ((p126.2).map eRow)))) 7 sc_l_door.nd rfl (by first | exact Or.inl rfl | exact Or.inr rfl) (np1 hpin (by decide)) (ee_tupOf (ds := List.map eRow p126.2) g_tuple (ee_lc (s1 := p126.1) (ys := p126.2) (f := (fun (t124 : Unit) (c124 : (List Str)) => some ((), some c124))) (enc := (eFL D.str)) (eb := eRow) (xs := ((p123.2))) (s0 := ()) (hx := (fun v => .hid (.im (.lst (((p123.2)).map (eFL D.str)))) v)) (cond := (fun _ => True)) (Γs := fun (t124 : Unit) => [some (Pot.m nmPot (p123.1)), some (.im (D.int many)), some (.im (D.lst ((words).map ePair))), some (.im (D.lst (((p123.2)).map (eFL D.str)))), none, none, none, none, none, none]) (Γt := fun (t124 : Unit) (c124 : (List Str)) => [some (Pot.m nmPot (p123.1)), some (.im (D.int many)), some (.im (D.lst ((words).map ePair))), some (.im (D.lst (((p123.2)).map (eFL D.str)))), none, none, none, none, none, some (.im (D.lst ((c124).map D.str)))]) (Γu := fun (t124 : Unit) (c124 : (List Str)) => [some (Pot.m nmPot (p123.1)), some (.im (D.int many)), some (.im (D.lst ((words).map ePair))), some (.im (D.lst (((p123.2)).map (eFL D.str)))), none, none, none, none, none, some (.im (D.lst ((c124).map D.str)))]) (tb := (fun _ _ => true)) rfl sc_l_door.nd (blkOk_by (own := [("row", 9)]) (N := N_l_door) (sc := defScope s_l_door) (by decide +kernel))
   { fx := Fix.hid, it := it_wk (Γ1 := [some (Pot.m nmPot (p123.1)), some (.im (D.int many)), some (.im (D.lst ((words).map ePair))), some (.im (D.lst (((p123.2)).map (eFL D.str)))), none, none, none, none, none, none]) (it_lstF (ee_var 3 (pv 3))) ⟨rfl, ⟨rfl, ⟨rfl, ⟨rfl, trivial⟩⟩⟩⟩, cd := fun _ => trivial, gt := fun s H Ca cl fp v q acc t124 c124 => (gt_name 9 sc_l_door.nd rfl (by first | exact Or.inl rfl | exact Or.inr rfl) (np1 hpin (by decide)) ⟨trivial, ⟨trivial, trivial⟩⟩ (by decide)), tt := fun s H Ca cl fp v q acc t124 c124 _ => tests0,
        el := fun s H Ca cl fp v q acc t124 c124 st' y hk hf => by
            obtain ⟨hf1, hf2⟩ := Prod.mk.inj (Option.some.inj hf); subst hf1; replace hf2 := Option.some.inj hf2; subst hf2; exact ee_wk (Γ1 := [some (Pot.m nmPot (p123.1)), some (.im (D.int many)), some (.im (D.lst ((words).map ePair))), some (.im (D.lst (((p123.2)).map (eFL D.str)))), none, none, none, none, none, some (.im (D.lst ((c124).map D.str)))]) (ee_tupOf (ds := List.map D.str c124) g_tuple (ee_var 9 (pv 9)) .fz) ⟨rfl, ⟨rfl, ⟨rfl, ⟨rfl, trivial⟩⟩⟩⟩,
        ft := fun t124 c124 r hk hf => by
            cases hf; exact ⟨_, rfl⟩,
        ff := fun t124 c124 r hk hf => Bool.noConfusion hk, br := fun _ => (bare_cons rfl bare_nil), fr := (freeJ_cons trivial freeJ_nil), fh := fun v => (freeJ_cons ⟨trivial, trivial⟩ freeJ_nil), pn := pnJ hpin (by decide), ln := (gd_d hp125) }
   hp126) .own) trivial) ?_
  obtain ⟨p128, hp128, h_⟩ := bsplit h; replace h := h_; clear h_
  obtain ⟨p129, hp129, h_⟩ := bsplit h; replace h := h_; clear h_
  obtain ⟨p130, hp130, h_⟩ := bsplit h; replace h := h_; clear h_
  obtain ⟨p137, hp137, h_⟩ := bsplit h; replace h := h_; clear h_
  replace h := Option.some.inj h
  subst h
  exact sl_exit (s_ret (Γ1 := [some (Pot.m nmPot (p137.1)), some (.im (D.int many)), some (.im (D.lst ((words).map ePair))), some (.im (D.lst (((p123.2)).map (eFL D.str)))), none, none, none, some (.im (D.tup ((p126.2).map eRow))), none, none]) (m := (.im (eDoor (p126.2, p137.2)))) (ee_tup (ds := [(D.tup ((p126.2).map eRow)), (D.tup ((p137.2).map (eTL D.int)))]) (ea_cons (ee_var 7 (pv 7)) (ea_cons (ee_tupOf (ds := List.map (eTL D.int) p137.2) g_tuple (ee_lc (s1 := p137.1) (ys := p137.2) (f := (fun (t127 : Pot) (c127 : Int) => (gd (decide (-(2 ^ 62) ≤ many))).bind fun p132 => (gd (decide (many < 2 ^ 62))).bind fun p133 => (gd (decide (((rng 0 many)).length ≤ sizeLine))).bind fun p134 => (lcM (fun (t131 : Unit) (c131 : Int) => some ((), if (!(decide (c131 = c127))) = true then some c131 else none)) () (rng 0 many)).bind fun p135 => (mixP_m t127 p135.2).bind fun p136 => some (p136.2, some p136.1))) (enc := D.int) (eb := (eTL D.int)) (xs := (rng 0 many)) (s0 := (p123.1)) (hx := (fun v => .hid (.im .non) v)) (cond := (fun _ => True)) (Γs := fun (t127 : Pot) => [some (Pot.m nmPot t127), some (.im (D.int many)), some (.im (D.lst ((words).map ePair))), some (.im (D.lst (((p123.2)).map (eFL D.str)))), none, none, none, some (.im (D.tup ((p126.2).map eRow))), none, none]) (Γt := fun (t127 : Pot) (c127 : Int) => [some (Pot.m nmPot t127), some (.im (D.int many)), some (.im (D.lst ((words).map ePair))), some (.im (D.lst (((p123.2)).map (eFL D.str)))), some (.im (D.int c127)), none, none, some (.im (D.tup ((p126.2).map eRow))), none, none]) (Γu := fun (t127 : Pot) (c127 : Int) => [some (Pot.m nmPot t127), some (.im (D.int many)), some (.im (D.lst ((words).map ePair))), some (.im (D.lst (((p123.2)).map (eFL D.str)))), some (.im (D.int c127)), none, none, some (.im (D.tup ((p126.2).map eRow))), none, none]) (tb := (fun _ _ => true)) rfl sc_l_door.nd (blkOk_by (own := [("i", 4)]) (N := N_l_door) (sc := defScope s_l_door) (by decide +kernel))
   { fx := Fix.hid, it := it_wk (Γ1 := [some (Pot.m nmPot (p123.1)), some (.im (D.int many)), some (.im (D.lst ((words).map ePair))), some (.im (D.lst (((p123.2)).map (eFL D.str)))), none, none, none, some (.im (D.tup ((p126.2).map eRow))), none, none]) (it_rng1 g_range (ee_var 1 (pv 1)) (gd_d hp128) (gd_d hp129)) ⟨rfl, ⟨rfl, ⟨rfl, ⟨rfl, ⟨rfl, trivial⟩⟩⟩⟩⟩, cd := fun _ => trivial, gt := fun s H Ca cl fp v q acc t127 c127 => (gt_name 4 sc_l_door.nd rfl (by first | exact Or.inl rfl | exact Or.inr rfl) (np1 hpin (by decide)) ⟨trivial, ⟨trivial, ⟨trivial, trivial⟩⟩⟩ (by decide)), tt := fun s H Ca cl fp v q acc t127 c127 _ => tests0,
        el := fun s H Ca cl fp v q acc t127 c127 st' y hk hf => by
            obtain ⟨p132, hp132, hf_⟩ := bsplit hf; replace hf := hf_; clear hf_; obtain ⟨p133, hp133, hf_⟩ := bsplit hf; replace hf := hf_; clear hf_; obtain ⟨p134, hp134, hf_⟩ := bsplit hf; replace hf := hf_; clear hf_; obtain ⟨p135, hp135, hf_⟩ := bsplit hf; replace hf := hf_; clear hf_; obtain ⟨p136, hp136, hf_⟩ := bsplit hf; replace hf := hf_; clear hf_; obtain ⟨hf1, hf2⟩ := Prod.mk.inj (Option.some.inj hf); subst hf1; replace hf2 := Option.some.inj hf2; subst hf2; exact ee_wk (Γ1 := [some (Pot.m nmPot p136.2), some (.im (D.int many)), some (.im (D.lst ((words).map ePair))), some (.im (D.lst (((p123.2)).map (eFL D.str)))), some (.im (D.int c127)), none, none, some (.im (D.tup ((p126.2).map eRow))), none, none]) (ee_tupOf (ds := List.map D.int p136.1) g_tuple (ee_callX (k := 2) (G_l_mixed.mono (by decide)) hr hG g_l_mixed kp_l_mixed b_l_mixed (ea_cons (ee_tk 0 (pv 0)) (ea_cons (ee_lock (ee_lc (s1 := p135.1) (ys := p135.2) (f := (fun (t131 : Unit) (c131 : Int) => some ((), if (!(decide (c131 = c127))) = true then some c131 else none))) (enc := D.int) (eb := D.int) (xs := (rng 0 many)) (s0 := ()) (hx := (fun v => .hid (.im .non) v)) (cond := (fun _ => True)) (Γs := fun (t131 : Unit) => [none, some (.im (D.int many)), some (.im (D.lst ((words).map ePair))), some (.im (D.lst (((p123.2)).map (eFL D.str)))), some (.im (D.int c127)), none, none, some (.im (D.tup ((p126.2).map eRow))), none, none]) (Γt := fun (t131 : Unit) (c131 : Int) => [none, some (.im (D.int many)), some (.im (D.lst ((words).map ePair))), some (.im (D.lst (((p123.2)).map (eFL D.str)))), some (.im (D.int c127)), some (.im (D.int c131)), none, some (.im (D.tup ((p126.2).map eRow))), none, none]) (Γu := fun (t131 : Unit) (c131 : Int) => [none, some (.im (D.int many)), some (.im (D.lst ((words).map ePair))), some (.im (D.lst (((p123.2)).map (eFL D.str)))), some (.im (D.int c127)), some (.im (D.int c131)), none, some (.im (D.tup ((p126.2).map eRow))), none, none]) (tb := (fun t131 c131 => (!(decide (c131 = c127))))) rfl sc_l_door.nd (blkOk_by (own := [("j", 5)]) (N := N_l_door) (by kernel_rfl))
   { fx := Fix.hid, it := it_wk (Γ1 := [none, some (.im (D.int many)), some (.im (D.lst ((words).map ePair))), some (.im (D.lst (((p123.2)).map (eFL D.str)))), some (.im (D.int c127)), none, none, some (.im (D.tup ((p126.2).map eRow))), none, none]) (it_rng1 g_range (ee_var 1 (pv 1)) (gd_d hp132) (gd_d hp133)) ⟨rfl, ⟨rfl, ⟨rfl, ⟨rfl, ⟨rfl, trivial⟩⟩⟩⟩⟩, cd := fun _ => trivial, gt := fun s H Ca cl fp v q acc t131 c131 => (gt_name 5 sc_l_door.nd rfl (by first | exact Or.inl rfl | exact Or.inr rfl) (np1 hpin (by decide)) ⟨trivial, ⟨trivial, ⟨trivial, ⟨(show (0 : Nat) ≠ 5 by decide), ⟨trivial, ⟨trivial, trivial⟩⟩⟩⟩⟩⟩ (by decide)), tt := fun s H Ca cl fp v q acc t131 c131 _ => tests1 (et_neI (ee_var 5 (pv 5)) (ee_var 4 (pv 4))),
        el := fun s H Ca cl fp v q acc t131 c131 st' y hk hf => by
            rw [if_t hk] at hf; obtain ⟨hf1, hf2⟩ := Prod.mk.inj (Option.some.inj hf); subst hf1; replace hf2 := Option.some.inj hf2; subst hf2; exact ee_wk (Γ1 := [none, some (.im (D.int many)), some (.im (D.lst ((words).map ePair))), some (.im (D.lst (((p123.2)).map (eFL D.str)))), some (.im (D.int c127)), some (.im (D.int c131)), none, some (.im (D.tup ((p126.2).map eRow))), none, none]) (ee_var 5 (pv 5)) ⟨rfl, ⟨rfl, ⟨rfl, ⟨rfl, ⟨rfl, trivial⟩⟩⟩⟩⟩,
        ft := fun t131 c131 r hk hf => by cases hf; exact ⟨_, if_t hk⟩,
        ff := fun t131 c131 r hk hf => by cases hf; exact ⟨if_f hk, ⟨rfl, ⟨rfl, ⟨rfl, ⟨rfl, ⟨rfl, trivial⟩⟩⟩⟩⟩⟩, br := fun _ => (bare_cons rfl bare_nil), fr := (freeJ_cons ⟨trivial, ⟨trivial, ⟨trivial, ⟨(show (0 : Nat) ≠ 5 by decide), trivial⟩⟩⟩⟩ freeJ_nil), fh := fun v => (freeJ_cons ⟨trivial, trivial⟩ freeJ_nil), pn := pnJ hpin (by decide), ln := (gd_d hp134) }
   hp135)) ea_nil)) ⟨t127, (p135.2).map D.int, ((p136.1).map D.int, p136.2), mixP_map D.int hp136, .inl rfl, rfl, rfl⟩) .own) ⟨rfl, ⟨rfl, ⟨rfl, ⟨rfl, ⟨rfl, trivial⟩⟩⟩⟩⟩,
        ft := fun t127 c127 r hk hf => by
            obtain ⟨p132, hp132, hf_⟩ := bsplit hf; replace hf := hf_; clear hf_; obtain ⟨p133, hp133, hf_⟩ := bsplit hf; replace hf := hf_; clear hf_; obtain ⟨p134, hp134, hf_⟩ := bsplit hf; replace hf := hf_; clear hf_; obtain ⟨p135, hp135, hf_⟩ := bsplit hf; replace hf := hf_; clear hf_; obtain ⟨p136, hp136, hf_⟩ := bsplit hf; replace hf := hf_; clear hf_; cases hf; exact ⟨_, rfl⟩,
        ff := fun t127 c127 r hk hf => Bool.noConfusion hk, br := fun _ => (bare_cons rfl bare_nil), fr := (freeJ_cons ⟨trivial, trivial⟩ freeJ_nil), fh := fun v => (freeJ_cons ⟨trivial, trivial⟩ freeJ_nil), pn := pnJ hpin (by decide), ln := (gd_d hp130) }
   hp137) .own) ea_nil)) (show 2 ≤ 1000 by decide)) ⟨rfl, trivial⟩) rfl
/-! ### law_words -/
abbrev N_l_words : List Str := ["pot", "some"]
theorem sc_l_words : FnScope N_l_words ["pot"] (defScope s_l_words) := ⟨rfl, rfl, rfl, by decide +kernel, rfl, by decide +kernel, by decide +kernel⟩
def l_words_m (pot : Pot) : Option ((List tPair) × Pot) := (gd (decide (((cutL ([(("even" : Str), ("even" : Str)), (("stand" : Str), ("bow" : Str)), (("stand" : Str), ("stand" : Str)), (("bow" : Str), ("bow" : Str))] : (List tPair)) none (some 1))).length + ((cutL ([(("even" : Str), ("even" : Str)), (("stand" : Str), ("bow" : Str)), (("stand" : Str), ("stand" : Str)), (("bow" : Str), ("bow" : Str))] : (List tPair)) (some 2) (some 3))).length ≤ sizeLine))).bind fun p139 => (pickP_m pot ([([(("even" : Str), ("even" : Str)), (("stand" : Str), ("bow" : Str)), (("stand" : Str), ("stand" : Str)), (("bow" : Str), ("bow" : Str))] : (List tPair)), ([(("even" : Str), ("even" : Str)), (("stand" : Str), ("bow" : Str)), (("stand" : Str), ("stand" : Str)), (("bow" : Str), ("bow" : Str))] : (List tPair)), (cutL ([(("even" : Str), ("even" : Str)), (("stand" : Str), ("bow" : Str)), (("stand" : Str), ("stand" : Str)), (("bow" : Str), ("bow" : Str))] : (List tPair)) none (some 2)), (cutL ([(("even" : Str), ("even" : Str)), (("stand" : Str), ("bow" : Str)), (("stand" : Str), ("stand" : Str)), (("bow" : Str), ("bow" : Str))] : (List tPair)) (some 2) none), ((cutL ([(("even" : Str), ("even" : Str)), (("stand" : Str), ("bow" : Str)), (("stand" : Str), ("stand" : Str)), (("bow" : Str), ("bow" : Str))] : (List tPair)) none (some 1)) ++ (cutL ([(("even" : Str), ("even" : Str)), (("stand" : Str), ("bow" : Str)), (("stand" : Str), ("stand" : Str)), (("bow" : Str), ("bow" : Str))] : (List tPair)) (some 2) (some 3))), (cutL ([(("even" : Str), ("even" : Str)), (("stand" : Str), ("bow" : Str)), (("stand" : Str), ("stand" : Str)), (("bow" : Str), ("bow" : Str))] : (List tPair)) none (some 1)), (cutL ([(("even" : Str), ("even" : Str)), (("stand" : Str), ("bow" : Str)), (("stand" : Str), ("stand" : Str)), (("bow" : Str), ("bow" : Str))] : (List tPair)) (some 1) (some 2))] : (List (List tPair)))).bind fun p140 => some (p140.1, p140.2)
abbrev l_wordsR : List M → M → List M → Prop := fun ms r ms' => ∃ (pot : Pot) (out : ((List tPair) × Pot)), l_words_m pot = some out ∧ ms = [(Pot.m nmPot pot)] ∧ r = (.im (D.lst (((out.1)).map ePair))) ∧ ms' = [(Pot.m nmPot (out.2))]
theorem l_words_ok {P : Program} {w : World} {K : PySem.W.Frag} {mg : Str → Option Value} {base : Heap} {f : Addr} {fd : FuncData} (F : FnP K "_law_words" s_l_words f fd) {f_l_pick : Addr} {fd_l_pick : FuncData} (G_l_pick : FnG P w K mg base 2 f_l_pick fd_l_pick ["pot", "items"] (spR K 2 [0] pickPR)) (F_l_pick : FnP K "_law_pick" s_l_pick f_l_pick fd_l_pick) (g_l_pick : mg "_law_pick" = some (.ref f_l_pick)) : FnG P w K mg base 3 f fd ["pot"] (spR K 1 [0] l_wordsR) := by
  refine fn_body (k := 2) F sc_l_words rfl (by decide) (by decide) (by decide) (by rintro ms r ms' ⟨pot, out, _, rfl, _, rfl⟩; exact ⟨rfl, rfl⟩) ?_
  rintro cdv A outer s H E H0 io pin mio hpin hr hG ms r ms' ⟨pot, out, h, rfl, rfl, rfl⟩
  refine ⟨[some (Pot.m nmPot (out.2)), none], ?_, fun k i m h1 h2 => match k, h1, h2 with | 0, h1, h2 => by cases h1; cases h2; rfl⟩
  unfold l_words_m at h
  refine sl_in ?_
  have kp_l_pick := F_l_pick.kp
  have b_l_pick : Binds K fd_l_pick ["pot", "items"] [] := F_l_pick.bindsN fun _ _ _ _ _ _ us hl => match us, hl with | [_, _], _ => rfl
  refine sl_cons (Γ1 := [some (Pot.m nmPot pot), some (.im (D.lst ((([(("even" : Str), ("even" : Str)), (("stand" : Str), ("bow" : Str)), (("stand" : Str), ("stand" : Str)), (("bow" : Str), ("bow" : Str))] : (List tPair))).map ePair)))]) (s_set (Γ1 := [some (Pot.m nmPot pot), none]) (m := (.im (D.lst ((([(("even" : Str), ("even" : Str)), (("stand" : Str), ("bow" : Str)), (("stand" : Str), ("stand" : Str)), (("bow" : Str), ("bow" : Str))] : (List tPair))).map ePair)))) 1 sc_l_words.nd rfl (by first | exact Or.inl rfl | exact Or.inr rfl) (np1 hpin (by decide)) (ee_lock (ee_lst (ds := List.map ePair ([(("even" : Str), ("even" : Str)), (("stand" : Str), ("bow" : Str)), (("stand" : Str), ("stand" : Str)), (("bow" : Str), ("bow" : Str))] : (List tPair))) (ea_cons (ee_tup (ds := [(D.str ("even" : Str)), (D.str ("even" : Str))]) (ea_cons ee_str (ea_cons ee_str ea_nil)) (show 2 ≤ 1000 by decide)) (ea_cons (ee_tup (ds := [(D.str ("stand" : Str)), (D.str ("bow" : Str))]) (ea_cons ee_str (ea_cons ee_str ea_nil)) (show 2 ≤ 1000 by decide)) (ea_cons (ee_tup (ds := [(D.str ("stand" : Str)), (D.str ("stand" : Str))]) (ea_cons ee_str (ea_cons ee_str ea_nil)) (show 2 ≤ 1000 by decide)) (ea_cons (ee_tup (ds := [(D.str ("bow" : Str)), (D.str ("bow" : Str))]) (ea_cons ee_str (ea_cons ee_str ea_nil)) (show 2 ≤ 1000 by decide)) ea_nil)))) (show 4 ≤ 1000 by decide))) trivial) ?_
  obtain ⟨p139, hp139, h_⟩ := bsplit h; replace h := h_; clear h_
  obtain ⟨p140, hp140, h_⟩ := bsplit h; replace h := h_; clear h_
  replace h := Option.some.inj h
  subst h
  exact sl_exit (s_ret (Γ1 := [some (Pot.m nmPot p140.2), some (.im (D.lst ((([(("even" : Str), ("even" : Str)), (("stand" : Str), ("bow" : Str)), (("stand" : Str), ("stand" : Str)), (("bow" : Str), ("bow" : Str))] : (List tPair))).map ePair)))]) (m := (.im (D.lst ((p140.1).map ePair)))) (ee_callX (k := 2) (G_l_pick.mono (by decide)) hr hG g_l_pick kp_l_pick b_l_pick (ea_cons (ee_tk 0 (pv 0)) (ea_cons (ee_lock (ee_lst (ds := List.map (eFL ePair) ([([(("even" : Str), ("even" : Str)), (("stand" : Str), ("bow" : Str)), (("stand" : Str), ("stand" : Str)), (("bow" : Str), ("bow" : Str))] : (List tPair)), ([(("even" : Str), ("even" : Str)), (("stand" : Str), ("bow" : Str)), (("stand" : Str), ("stand" : Str)), (("bow" : Str), ("bow" : Str))] : (List tPair)), (cutL ([(("even" : Str), ("even" : Str)), (("stand" : Str), ("bow" : Str)), (("stand" : Str), ("stand" : Str)), (("bow" : Str), ("bow" : Str))] : (List tPair)) none (some 2)), (cutL ([(("even" : Str), ("even" : Str)), (("stand" : Str), ("bow" : Str)), (("stand" : Str), ("stand" : Str)), (("bow" : Str), ("bow" : Str))] : (List tPair)) (some 2) none), ((cutL ([(("even" : Str), ("even" : Str)), (("stand" : Str), ("bow" : Str)), (("stand" : Str), ("stand" : Str)), (("bow" : Str), ("bow" : Str))] : (List tPair)) none (some 1)) ++ (cutL ([(("even" : Str), ("even" : Str)), (("stand" : Str), ("bow" : Str)), (("stand" : Str), ("stand" : Str)), (("bow" : Str), ("bow" : Str))] : (List tPair)) (some 2) (some 3))), (cutL ([(("even" : Str), ("even" : Str)), (("stand" : Str), ("bow" : Str)), (("stand" : Str), ("stand" : Str)), (("bow" : Str), ("bow" : Str))] : (List tPair)) none (some 1)), (cutL ([(("even" : Str), ("even" : Str)), (("stand" : Str), ("bow" : Str)), (("stand" : Str), ("stand" : Str)), (("bow" : Str), ("bow" : Str))] : (List tPair)) (some 1) (some 2))] : (List (List tPair)))) (ea_cons (ee_var 1 (pv 1)) (ea_cons (ee_var 1 (pv 1)) (ea_cons (ee_lock (ee_slLE (enc := ePair) (ee_var 1 (pv 1)) ep_none (ep_some ee_int) .fz)) (ea_cons (ee_lock (ee_slLE (enc := ePair) (ee_var 1 (pv 1)) (ep_some ee_int) ep_none .fz)) (ea_cons (ee_lock (ee_catE (enc := ePair) (ee_slLE (enc := ePair) (ee_var 1 (pv 1)) ep_none (ep_some ee_int) .fz) (ee_slLE (enc := ePair) (ee_var 1 (pv 1)) (ep_some ee_int) (ep_some ee_int) .fz) .own .own (gd_d hp139))) (ea_cons (ee_lock (ee_slLE (enc := ePair) (ee_var 1 (pv 1)) ep_none (ep_some ee_int) .fz)) (ea_cons (ee_lock (ee_slLE (enc := ePair) (ee_var 1 (pv 1)) (ep_some ee_int) (ep_some ee_int) .fz)) ea_nil))))))) (show 7 ≤ 1000 by decide))) ea_nil)) ⟨pot, (([([(("even" : Str), ("even" : Str)), (("stand" : Str), ("bow" : Str)), (("stand" : Str), ("stand" : Str)), (("bow" : Str), ("bow" : Str))] : (List tPair)), ([(("even" : Str), ("even" : Str)), (("stand" : Str), ("bow" : Str)), (("stand" : Str), ("stand" : Str)), (("bow" : Str), ("bow" : Str))] : (List tPair)), (cutL ([(("even" : Str), ("even" : Str)), (("stand" : Str), ("bow" : Str)), (("stand" : Str), ("stand" : Str)), (("bow" : Str), ("bow" : Str))] : (List tPair)) none (some 2)), (cutL ([(("even" : Str), ("even" : Str)), (("stand" : Str), ("bow" : Str)), (("stand" : Str), ("stand" : Str)), (("bow" : Str), ("bow" : Str))] : (List tPair)) (some 2) none), ((cutL ([(("even" : Str), ("even" : Str)), (("stand" : Str), ("bow" : Str)), (("stand" : Str), ("stand" : Str)), (("bow" : Str), ("bow" : Str))] : (List tPair)) none (some 1)) ++ (cutL ([(("even" : Str), ("even" : Str)), (("stand" : Str), ("bow" : Str)), (("stand" : Str), ("stand" : Str)), (("bow" : Str), ("bow" : Str))] : (List tPair)) (some 2) (some 3))), (cutL ([(("even" : Str), ("even" : Str)), (("stand" : Str), ("bow" : Str)), (("stand" : Str), ("stand" : Str)), (("bow" : Str), ("bow" : Str))] : (List tPair)) none (some 1)), (cutL ([(("even" : Str), ("even" : Str)), (("stand" : Str), ("bow" : Str)), (("stand" : Str), ("stand" : Str)), (("bow" : Str), ("bow" : Str))] : (List tPair)) (some 1) (some 2))] : (List (List tPair)))).map (eFL ePair), ((D.lst ((p140.1).map ePair)), p140.2), pickP_map (eFL ePair) hp140, .inl rfl, rfl, rfl⟩) ⟨rfl, trivial⟩) rfl
/-! ### law_house -/
abbrev N_l_house : List Str := ["pot", "many", "rooms", "size", "doors", "found", "room", "ways", "hand"]
theorem sc_l_house : FnScope N_l_house ["pot", "many", "rooms", "size", "doors"] (defScope s_l_house) := ⟨rfl, rfl, rfl, by decide +kernel, rfl, by decide +kernel, by decide +kernel⟩
def l_house_L1 (many : Int) (doors : Int) (s : (Pot × (List (Option tDoor)))) (x : Int) : Option (Pot × (List (Option tDoor))) := (drawP_m (s.1) 10).bind fun p144 => (if (decide ((p144.1) < doors)) = true then ((l_words_m (p144.2)).bind fun p147 => (l_door_m (p147.2) many (p147.1)).bind fun p148 => some ((some (p148.1)), (p148.2))) else (some (none, (p144.2)))).bind fun p149 => (gd (decide (((s.2)).length < sizeLine))).bind fun p150 => some ((p149.2), ((s.2) ++ [(p149.1)]))
def l_house_m (pot : Pot) (many : Int) (rooms : Int) (size : Int) (doors : Int) : Option (tHouse × Pot) := (gd (decide (-(2 ^ 62) ≤ rooms))).bind fun p141 => (gd (decide (rooms < 2 ^ 62))).bind fun p142 => (forS (l_house_L1 many doors) (pot, ([] : (List (Option tDoor)))) (rng 0 rooms)).bind fun p158 => (gd (decide (-(2 ^ 62) ≤ many))).bind fun p160 => (gd (decide (many < 2 ^ 62))).bind fun p161 => (gd (decide (((rng 0 many)).length ≤ sizeLine))).bind fun p162 => (lcM (fun (t159 : Pot) (c159 : Int) => (gd (decide (0 ≤ rooms))).bind fun p163 => (gd (decide (rooms ≤ 1000000))).bind fun p164 => (l_way_m t159 (rng 0 rooms) size).bind fun p165 => some ((p165.2), some (p165.1))) (p158.1) (rng 0 many)).bind fun p166 => some (((p158.2), p166.2), (p166.1))
abbrev l_houseR : List M → M → List M → Prop := fun ms r ms' => ∃ (pot : Pot) (many : Int) (rooms : Int) (size : Int) (doors : Int) (out : (tHouse × Pot)), l_house_m pot many rooms size doors = some out ∧ ms = [(Pot.m nmPot pot), (.im (D.int many)), (.im (D.int rooms)), (.im (D.int size)), (.im (D.int doors))] ∧ r = (.im (eHouse (out.1))) ∧ ms' = [(Pot.m nmPot (out.2))]
theorem l_house_ok {P : Program} {w : World} {K : PySem.W.Frag} {mg : Str → Option Value} {base : Heap} {f : Addr} {fd : FuncData} (F : FnP K "_law_house" s_l_house f fd) {f_l_draw : Addr} {fd_l_draw : FuncData} (G_l_draw : FnG P w K mg base 1 f_l_draw fd_l_draw ["pot", "many"] (spR K 2 [0] drawPR)) (F_l_draw : FnP K "_law_draw" s_l_draw f_l_draw fd_l_draw) (g_l_draw : mg "_law_draw" = some (.ref f_l_draw)) {f_l_way : Addr} {fd_l_way : FuncData} (G_l_way : FnG P w K mg base 3 f_l_way fd_l_way ["pot", "some", "size"] (spR K 3 [0] l_wayR)) (F_l_way : FnP K "_law_way" s_l_way f_l_way fd_l_way) (g_l_way : mg "_law_way" = some (.ref f_l_way)) {f_l_door : Addr} {fd_l_door : FuncData} (G_l_door : FnG P w K mg base 3 f_l_door fd_l_door ["pot", "many", "words"] (spR K 3 [0] l_doorR)) (F_l_door : FnP K "_law_door" s_l_door f_l_door fd_l_door) (g_l_door : mg "_law_door" = some (.ref f_l_door)) {f_l_words : Addr} {fd_l_words : FuncData} (G_l_words : FnG P w K mg base 3 f_l_words fd_l_words ["pot"] (spR K 1 [0] l_wordsR)) (F_l_words : FnP K "_law_words" s_l_words f_l_words fd_l_words) (g_l_words : mg "_law_words" = some (.ref f_l_words)) (g_list : mg "list" = none) (g_range : mg "range" = none) (g_tuple : mg "tuple" = none) : FnG P w K mg base 4 f fd ["pot", "many", "rooms", "size", "doors"] (spR K 5 [0] l_houseR) := by
  refine fn_body (k := 3) F sc_l_house rfl (by decide) (by decide) (by decide) (by rintro ms r ms' ⟨pot, many, rooms, size, doors, out, _, rfl, _, rfl⟩; exact ⟨rfl, rfl⟩) ?_
  rintro cdv A outer s H E H0 io pin mio hpin hr hG ms r ms' ⟨pot, many, rooms, size, doors, out, h, rfl, rfl, rfl⟩
  refine ⟨[some (Pot.m nmPot (out.2)), none, none, none, none, none, none, none, none], ?_, fun k i m h1 h2 => match k, h1, h2 with | 0, h1, h2 => by cases h1; cases h2; rfl⟩
  unfold l_house_m at h
  refine sl_in ?_
  have kp_l_draw := F_l_draw.kp
  have b_l_draw : Binds K fd_l_draw ["pot", "many"] [] := F_l_draw.bindsN fun _ _ _ _ _ _ us hl => match us, hl with | [_, _], _ => rfl
  have kp_l_way := F_l_way.kp
  have b_l_way : Binds K fd_l_way ["pot", "some", "size"] [] := F_l_way.bindsN fun _ _ _ _ _ _ us hl => match us, hl with | [_, _, _], _ => rfl
  have kp_l_door := F_l_door.kp
  have b_l_door : Binds K fd_l_door ["pot", "many", "words"] [] := F_l_door.bindsN fun _ _ _ _ _ _ us hl => match us, hl with | [_, _, _], _ => rfl
  have kp_l_words := F_l_words.kp
  have b_l_words : Binds K fd_l_words ["pot"] [] := F_l_words.bindsN fun _ _ _ _ _ _ us hl => match us, hl with | [_], _ => rfl
  refine sl_cons (Γ1 := [some (Pot.m nmPot pot), some (.im (D.int many)), some (.im (D.int rooms)), some (.im (D.int size)), some (.im (D.int doors)), some (.li ((([] : (List (Option tDoor)))).map (eO eDoor))), none, none, none]) (s_set (Γ1 := [some (Pot.m nmPot pot), some (.im (D.int many)), some (.im (D.int rooms)), some (.im (D.int size)), some (.im (D.int doors)), none, none, none, none]) (m := (.li ((([] : (List (Option tDoor)))).map (eO eDoor)))) 5 sc_l_house.nd rfl (by first | exact Or.inl rfl | exact Or.inr rfl) (np1 hpin (by decide)) (ee_lst (ds := []) ea_nil (show 0 ≤ 1000 by decide)) trivial) ?_
  obtain ⟨p141, hp141, h_⟩ := bsplit h; replace h := h_; clear h_
  obtain ⟨p142, hp142, h_⟩ := bsplit h; replace h := h_; clear h_
  obtain ⟨p158, hp158, h_⟩ := bsplit h; replace h := h_; clear h_
  refine sl_cons (Γ1 := [some (Pot.m nmPot (p158.1)), some (.im (D.int many)), some (.im (D.int rooms)), some (.im (D.int size)), some (.im (D.int doors)), some (.li (((p158.2)).map (eO eDoor))), none, none, none]) (s_for (J := [6]) (enc := D.int) (xs := (rng 0 rooms)) (hx := (fun v => .hid (.im .non) v)) (cond := (fun _ => True)) (f := (l_house_L1 many doors)) (s0 := (pot, ([] : (List (Option tDoor))))) (Γs := fun (s143 : (Pot × (List (Option tDoor)))) => [some (Pot.m nmPot (s143.1)), some (.im (D.int many)), some (.im (D.int rooms)), some (.im (D.int size)), some (.im (D.int doors)), some (.li (((s143.2)).map (eO eDoor))), none, none, none]) (Γt := fun (s143 : (Pot × (List (Option tDoor)))) (x143 : Int) => [some (Pot.m nmPot (s143.1)), some (.im (D.int many)), some (.im (D.int rooms)), some (.im (D.int size)), some (.im (D.int doors)), some (.li (((s143.2)).map (eO eDoor))), some (.im (D.int x143)), none, none]) rfl Fix.hid (it_wk (Γ1 := [some (Pot.m nmPot pot), some (.im (D.int many)), some (.im (D.int rooms)), some (.im (D.int size)), some (.im (D.int doors)), some (.li ((([] : (List (Option tDoor)))).map (eO eDoor))), none, none, none]) (it_rng1 g_range (ee_var 2 (pv 2)) (gd_d hp141) (gd_d hp142)) ⟨rfl, ⟨rfl, ⟨rfl, ⟨rfl, ⟨rfl, ⟨rfl, trivial⟩⟩⟩⟩⟩⟩) (fun _ => trivial) ?_ ?_ hp158) ?_
  · intro v143 s143 x143
    exact (gt_name 6 sc_l_house.nd rfl (by first | exact Or.inl rfl | exact Or.inr rfl) (np1 hpin (by decide)) ⟨trivial, trivial⟩ (by decide))
  · intro v143 s143 x143 s_143 hf143
    unfold l_house_L1 at hf143
    refine sl_in ?_
    obtain ⟨p151, hp151, hf143_⟩ := bsplit hf143; replace hf143 := hf143_; clear hf143_
    obtain ⟨p156, hp156, hf143_⟩ := bsplit hf143; replace hf143 := hf143_; clear hf143_
    obtain ⟨p157, hp157, hf143_⟩ := bsplit hf143; replace hf143 := hf143_; clear hf143_
    refine sl_cons (Γ1 := [some (Pot.m nmPot (p156.2)), some (.im (D.int many)), some (.im (D.int rooms)), some (.im (D.int size)), some (.im (D.int doors)), some (.li ((((s143.2) ++ [(p156.1)])).map (eO eDoor))), some (.im (D.int x143)), none, none]) (s_expr (t := .own (.im D.non)) (ee_appendE (Γ1 := [some (Pot.m nmPot (p156.2)), some (.im (D.int many)), some (.im (D.int rooms)), some (.im (D.int size)), some (.im (D.int doors)), some (.li (((s143.2)).map (eO eDoor))), some (.im (D.int x143)), none, none]) (enc := (eO eDoor)) (x := (p156.1)) 5 (pv 5) rfl (ee_if (t := .own (.im ((eO eDoor) (p156.1)))) (Γ' := [some (Pot.m nmPot (p156.2)), some (.im (D.int many)), some (.im (D.int rooms)), some (.im (D.int size)), some (.im (D.int doors)), some (.li (((s143.2)).map (eO eDoor))), some (.im (D.int x143)), none, none]) (et_lt (ee_callX (k := 3) (G_l_draw.mono (by decide)) hr hG g_l_draw kp_l_draw b_l_draw (ea_cons (ee_tk 0 (pv 0)) (ea_cons ee_int ea_nil)) ⟨(s143.1), 10, p151, hp151, rfl, rfl, rfl⟩) (ee_var 4 (pv 4))) (fun hk => by
            have e152 := (if_t hk).symm.trans hp156; obtain ⟨p154, hp154, e152_⟩ := bsplit e152; replace e152 := e152_; clear e152_; obtain ⟨p155, hp155, e152_⟩ := bsplit e152; replace e152 := e152_; clear e152_; replace e152 := Option.some.inj e152; subst e152; exact (ee_callX (k := 3) (G_l_door.mono (by decide)) hr hG g_l_door kp_l_door b_l_door (ea_late (ea_cons (ee_al 0 (pv 0)) (ea_cons (ee_var 1 (pv 1)) (ea_cons (ee_callX (k := 3) (G_l_words.mono (by decide)) hr hG g_l_words kp_l_words b_l_words (ea_cons (ee_tk 0 (pv 0)) ea_nil) ⟨(p151.2), p154, hp154, rfl, rfl, rfl⟩) ea_nil)))) ⟨(p154.2), many, (p154.1), p155, hp155, rfl, rfl, rfl⟩)) (fun hk => by
            have e153 := (if_f hk).symm.trans hp156; replace e153 := Option.some.inj e153; subst e153; exact ee_non)) rfl (gd_d hp157))) ?_
    replace hf143 := Option.some.inj hf143
    subst hf143
    exact sl_end ⟨rfl, ⟨rfl, ⟨rfl, ⟨rfl, ⟨rfl, ⟨rfl, trivial⟩⟩⟩⟩⟩⟩
  obtain ⟨p160, hp160, h_⟩ := bsplit h; replace h := h_; clear h_
  obtain ⟨p161, hp161, h_⟩ := bsplit h; replace h := h_; clear h_
  obtain ⟨p162, hp162, h_⟩ := bsplit h; replace h := h_; clear h_
  obtain ⟨p166, hp166, h_⟩ := bsplit h; replace h := h_; clear h_
  refine sl_cons (Γ1 := [some (Pot.m nmPot (p166.1)), some (.im (D.int many)), some (.im (D.int rooms)), some (.im (D.int size)), some (.im (D.int doors)), some (.li (((p158.2)).map (eO eDoor))), none, some (.im (D.lst ((p166.2).map eWay))), none]) (s_lock 7 (Γ1 := [some (Pot.m nmPot (p166.1)), some (.im (D.int many)), some (.im (D.int rooms)), some (.im (D.int size)), some (.im (D.int doors)), some (.li (((p158.2)).map (eO eDoor))), none, some (.li ((p166.2).map eWay)), none]) (s_setLc 7 (s1 := p166.1) (ys := p166.2) (f := (fun (t159 : Pot) (c159 : Int) => (gd (decide (0 ≤ rooms))).bind fun p163 => (gd (decide (rooms ≤ 1000000))).bind fun p164 => (l_way_m t159 (rng 0 rooms) size).bind fun p165 => some ((p165.2), some (p165.1)))) (enc := D.int) (eb := eWay) (xs := (rng 0 many)) (s0 := (p158.1)) (hx := (fun v => .hid (.im .non) v)) (cond := (fun _ => True)) (Γs := fun (t159 : Pot) => [some (Pot.m nmPot t159), some (.im (D.int many)), some (.im (D.int rooms)), some (.im (D.int size)), some (.im (D.int doors)), some (.li (((p158.2)).map (eO eDoor))), none, none, none]) (Γt := fun (t159 : Pot) (c159 : Int) => [some (Pot.m nmPot t159), some (.im (D.int many)), some (.im (D.int rooms)), some (.im (D.int size)), some (.im (D.int doors)), some (.li (((p158.2)).map (eO eDoor))), none, none, some (.im (D.int c159))]) (Γu := fun (t159 : Pot) (c159 : Int) => [some (Pot.m nmPot t159), some (.im (D.int many)), some (.im (D.int rooms)), some (.im (D.int size)), some (.im (D.int doors)), some (.li (((p158.2)).map (eO eDoor))), none, none, some (.im (D.int c159))]) (tb := (fun _ _ => true)) rfl sc_l_house.nd rfl rfl (np1 hpin (by decide)) trivial (blkOk_by (own := [("hand", 8)]) (N := N_l_house) (sc := defScope s_l_house) (by decide +kernel))
   { fx := Fix.hid, it := it_wk (Γ1 := [some (Pot.m nmPot (p158.1)), some (.im (D.int many)), some (.im (D.int rooms)), some (.im (D.int size)), some (.im (D.int doors)), some (.li (((p158.2)).map (eO eDoor))), none, none, none]) (it_rng1 g_range (ee_var 1 (pv 1)) (gd_d hp160) (gd_d hp161)) ⟨rfl, ⟨rfl, ⟨rfl, ⟨rfl, ⟨rfl, ⟨rfl, trivial⟩⟩⟩⟩⟩⟩, cd := fun _ => trivial, gt := fun s H Ca cl fp v q acc t159 c159 => (gt_name 8 sc_l_house.nd rfl (by first | exact Or.inl rfl | exact Or.inr rfl) (np1 hpin (by decide)) ⟨trivial, ⟨trivial, trivial⟩⟩ (by decide)), tt := fun s H Ca cl fp v q acc t159 c159 _ => tests0,
        el := fun s H Ca cl fp v q acc t159 c159 st' y hk hf => by
            obtain ⟨p163, hp163, hf_⟩ := bsplit hf; replace hf := hf_; clear hf_; obtain ⟨p164, hp164, hf_⟩ := bsplit hf; replace hf := hf_; clear hf_; obtain ⟨p165, hp165, hf_⟩ := bsplit hf; replace hf := hf_; clear hf_; obtain ⟨hf1, hf2⟩ := Prod.mk.inj (Option.some.inj hf); subst hf1; replace hf2 := Option.some.inj hf2; subst hf2; exact ee_wk (Γ1 := [some (Pot.m nmPot (p165.2)), some (.im (D.int many)), some (.im (D.int rooms)), some (.im (D.int size)), some (.im (D.int doors)), some (.li (((p158.2)).map (eO eDoor))), none, none, some (.im (D.int c159))]) (ee_callX (k := 3) (G_l_way.mono (by decide)) hr hG g_l_way kp_l_way b_l_way (ea_cons (ee_tk 0 (pv 0)) (ea_cons (ee_lock (ee_listRg rfl g_list g_range (ee_var 2 (pv 2)) (gd_d hp163) (gd_d hp164))) (ea_cons (ee_var 3 (pv 3)) ea_nil))) ⟨t159, (rng 0 rooms), size, p165, hp165, rfl, rfl, rfl⟩) ⟨rfl, ⟨rfl, ⟨rfl, ⟨rfl, ⟨rfl, ⟨rfl, trivial⟩⟩⟩⟩⟩⟩,
        ft := fun t159 c159 r hk hf => by
            obtain ⟨p163, hp163, hf_⟩ := bsplit hf; replace hf := hf_; clear hf_; obtain ⟨p164, hp164, hf_⟩ := bsplit hf; replace hf := hf_; clear hf_; obtain ⟨p165, hp165, hf_⟩ := bsplit hf; replace hf := hf_; clear hf_; cases hf; exact ⟨_, rfl⟩,
        ff := fun t159 c159 r hk hf => Bool.noConfusion hk, br := fun _ => (bare_cons rfl bare_nil), fr := (freeJ_cons trivial freeJ_nil), fh := fun v => (freeJ_cons ⟨trivial, trivial⟩ freeJ_nil), pn := pnJ hpin (by decide), ln := (gd_d hp162) }
   hp166 (sw_true rfl rfl rfl (by decide +kernel))) rfl) ?_
  replace h := Option.some.inj h
  subst h
  exact sl_exit (s_ret (Γ1 := [some (Pot.m nmPot (p166.1)), some (.im (D.int many)), some (.im (D.int rooms)), some (.im (D.int size)), some (.im (D.int doors)), some (.li (((p158.2)).map (eO eDoor))), none, some (.im (D.lst ((p166.2).map eWay))), none]) (m := (.im (eHouse ((p158.2), p166.2)))) (ee_tup (ds := [(D.tup (((p158.2)).map (eO eDoor))), (D.tup ((p166.2).map eWay))]) (ea_cons (ee_tupOf (ds := List.map (eO eDoor) (p158.2)) g_tuple (ee_al 5 (pv 5)) (.al rfl)) (ea_cons (ee_tupOf (ds := List.map eWay p166.2) g_tuple (ee_var 7 (pv 7)) .fz) ea_nil)) (show 2 ≤ 1000 by decide)) ⟨rfl, trivial⟩) rfl
/-! ### law_rings_of -/
abbrev N_l_rings_of : List Str := ["nodes", "leads", "hand_of", "found", "rows", "longer", "row", "taken", "later", "node", "one"]
theorem sc_l_rings_of : FnScope N_l_rings_of ["nodes", "leads", "hand_of"] (defScope s_l_rings_of) := ⟨rfl, rfl, rfl, by decide +kernel, rfl, by decide +kernel, by decide +kernel⟩
def l_rings_of_L2 (leads : (List (Int × (List Int)))) (hand_of : (List Int)) (s : ((List (List Int)) × (List (List Int)))) (x : (List Int)) : Option ((List (List Int)) × (List (List Int))) := (gd (decide (((x)).length ≤ sizeLine))).bind fun p173 => (lcM (fun (t172 : Unit) (c172 : Int) => (atI hand_of c172).bind fun p174 => some ((), some p174)) () (x)).bind fun p175 => (if (decide (1 < ((x).length : Int))) = true then ((atI x 0).bind fun p177 => (atI x (-1)).bind fun p178 => (lookE leads p178).bind fun p179 => some (decide (p177 ∈ p179))) else (some false)).bind fun p180 => (if p180 = true then ((gd (decide (((s.1)).length < sizeLine))).bind fun p183 => some ((s.1) ++ [x])) else (some (s.1))).bind fun p184 => (atI x (-1)).bind fun p186 => (lookE leads p186).bind fun p187 => (gd (decide (((p187)).length ≤ sizeLine))).bind fun p188 => (lcM (fun (t185 : Unit) (c185 : Int) => (((atI hand_of c185).bind fun p189 => (atI p175.2 0).bind fun p190 => some (decide (p190 < p189)))).bind fun tq => if tq = true then (some ((), some c185)) else some ((), none)) () (p187)).bind fun p191 => (gd (decide (((p191.2)).length ≤ sizeLine))).bind fun p198 => (lcM (fun (t197 : Unit) (c197 : Int) => (((atI hand_of c197).bind fun p199 => some (!(decide (p199 ∈ p175.2))))).bind fun tq => if tq = true then ((gd (decide ((x).length + (([c197] : (List Int))).length ≤ sizeLine))).bind fun p200 => some ((), some (x ++ ([c197] : (List Int))))) else some ((), none)) () (p191.2)).bind fun p201 => (gd (decide (((s.2)).length + (p201.2).length ≤ sizeLine))).bind fun p202 => some (p184, ((s.2) ++ p201.2))
def l_rings_of_L1c (leads : (List (Int × (List Int)))) (hand_of : (List Int)) (s : ((List (List Int)) × (List (List Int)))) : Bool := (!((s.2)).isEmpty)
def l_rings_of_L1 (leads : (List (Int × (List Int)))) (hand_of : (List Int)) (s : ((List (List Int)) × (List (List Int)))) : Option ((List (List Int)) × (List (List Int))) := (forS (l_rings_of_L2 leads hand_of) ((s.1), ([] : (List (List Int)))) ((s.2))).bind fun p234 => some ((p234.1), (p234.2))
def l_rings_of_m (nodes : (List Int)) (leads : (List (Int × (List Int)))) (hand_of : (List Int)) : Option ((List (List Int)) × (List (Int × (List Int)))) := (gd (decide (((nodes)).length ≤ sizeLine))).bind fun p168 => (lcM (fun (t167 : Unit) (c167 : Int) => some ((), some ([c167] : (List Int)))) () (nodes)).bind fun p169 => (whS (l_rings_of_L1c leads hand_of) (l_rings_of_L1 leads hand_of) 100000 (([] : (List (List Int))), p169.2)).bind fun p299 => (gd (((p299.1)).all fun x => !x.isEmpty)).bind fun p300 => some ((srtE (eTL D.int) (p299.1)), leads)
abbrev l_rings_ofR : List M → M → List M → Prop := fun ms r ms' => ∃ (nodes : (List Int)) (leads : (List (Int × (List Int)))) (hand_of : (List Int)) (out : ((List (List Int)) × (List (Int × (List Int))))), l_rings_of_m nodes leads hand_of = some out ∧ ms = [(.im (D.lst ((nodes).map D.int))), (dkI (eFL D.int) leads), (.im (D.lst ((hand_of).map D.int)))] ∧ r = (.im (D.lst (((out.1)).map (eTL D.int)))) ∧ ms' = [(dkI (eFL D.int) (out.2))]
theorem l_rings_of_ok {P : Program} {w : World} {K : PySem.W.Frag} {mg : Str → Option Value} {base : Heap} {f : Addr} {fd : FuncData} (F : FnP K "_law_rings_of" s_l_rings_of f fd) (g_len : mg "len" = none) (g_sorted : mg "sorted" = none) : FnG P w K mg base 1 f fd ["nodes", "leads", "hand_of"] (spR K 3 [1] l_rings_ofR) := by
  refine fn_body (k := 0) F sc_l_rings_of rfl (by decide) (by decide) (by decide) (by rintro ms r ms' ⟨nodes, leads, hand_of, out, _, rfl, _, rfl⟩; exact ⟨rfl, rfl⟩) ?_
  rintro cdv A outer s H E H0 io pin mio hpin hr hG ms r ms' ⟨nodes, leads, hand_of, out, h, rfl, rfl, rfl⟩
  refine ⟨[none, some (dkI (eFL D.int) (out.2)), none, none, none, none, none, none, none, none, none], ?_, fun k i m h1 h2 => match k, h1, h2 with | 0, h1, h2 => by cases h1; cases h2; rfl⟩
  unfold l_rings_of_m at h
  refine sl_in ?_
  obtain ⟨p168, hp168, h_⟩ := bsplit h; replace h := h_; clear h_
  obtain ⟨p169, hp169, h_⟩ := bsplit h; replace h := h_; clear h_
  refine sl_cons (Γ1 := [some (.im (D.lst ((nodes).map D.int))), some (dkI (eFL D.int) leads), some (.im (D.lst ((hand_of).map D.int))), some (.li ((([] : (List (List Int)))).map (eTL D.int))), some (.li ((p169.2).map (eTL D.int))), none, none, none, none, none, none]) (s_par2 (Γ1 := [some (.im (D.lst ((nodes).map D.int))), some (dkI (eFL D.int) leads), some (.im (D.lst ((hand_of).map D.int))), none, none, none, none, none, none, none, none]) (m1 := (.li ((([] : (List (List Int)))).map (eTL D.int)))) (m2 := (.li ((p169.2).map (eTL D.int)))) 3 4 rfl sc_l_rings_of.nd rfl rfl (by decide) rfl rfl (np1 hpin (by decide)) (np1 hpin (by decide)) trivial trivial (ea_cons (ee_lst (ds := []) ea_nil (show 0 ≤ 1000 by decide)) (ea_cons (ee_lc (s1 := p169.1) (ys := p169.2) (f := (fun (t167 : Unit) (c167 : Int) => some ((), some ([c167] : (List Int))))) (enc := D.int) (eb := (eTL D.int)) (xs := (nodes)) (s0 := ()) (hx := (fun v => .hid (.im (.lst ((nodes).map D.int))) v)) (cond := (fun _ => True)) (Γs := fun (t167 : Unit) => [some (.im (D.lst ((nodes).map D.int))), some (dkI (eFL D.int) leads), some (.im (D.lst ((hand_of).map D.int))), none, none, none, none, none, none, none, none]) (Γt := fun (t167 : Unit) (c167 : Int) => [some (.im (D.lst ((nodes).map D.int))), some (dkI (eFL D.int) leads), some (.im (D.lst ((hand_of).map D.int))), none, none, none, none, none, none, some (.im (D.int c167)), none]) (Γu := fun (t167 : Unit) (c167 : Int) => [some (.im (D.lst ((nodes).map D.int))), some (dkI (eFL D.int) leads), some (.im (D.lst ((hand_of).map D.int))), none, none, none, none, none, none, some (.im (D.int c167)), none]) (tb := (fun _ _ => true)) rfl sc_l_rings_of.nd (blkOk_by (own := [("node", 9)]) (N := N_l_rings_of) (sc := defScope s_l_rings_of) (by decide +kernel))
   { fx := Fix.hid, it := it_wk (Γ1 := [some (.im (D.lst ((nodes).map D.int))), some (dkI (eFL D.int) leads), some (.im (D.lst ((hand_of).map D.int))), none, none, none, none, none, none, none, none]) (it_lstF (ee_var 0 (pv 0))) ⟨rfl, ⟨rfl, ⟨rfl, trivial⟩⟩⟩, cd := fun _ => trivial, gt := fun s H Ca cl fp v q acc t167 c167 => (gt_name 9 sc_l_rings_of.nd rfl (by first | exact Or.inl rfl | exact Or.inr rfl) (np1 hpin (by decide)) ⟨trivial, ⟨trivial, ⟨trivial, trivial⟩⟩⟩ (by decide)), tt := fun s H Ca cl fp v q acc t167 c167 _ => tests0,
        el := fun s H Ca cl fp v q acc t167 c167 st' y hk hf => by
            obtain ⟨hf1, hf2⟩ := Prod.mk.inj (Option.some.inj hf); subst hf1; replace hf2 := Option.some.inj hf2; subst hf2; exact ee_wk (Γ1 := [some (.im (D.lst ((nodes).map D.int))), some (dkI (eFL D.int) leads), some (.im (D.lst ((hand_of).map D.int))), none, none, none, none, none, none, some (.im (D.int c167)), none]) (ee_tup (ds := List.map D.int ([c167] : (List Int))) (ea_cons (ee_var 9 (pv 9)) ea_nil) (show 1 ≤ 1000 by decide)) ⟨rfl, ⟨rfl, ⟨rfl, trivial⟩⟩⟩,
        ft := fun t167 c167 r hk hf => by
            cases hf; exact ⟨_, rfl⟩,
        ff := fun t167 c167 r hk hf => Bool.noConfusion hk, br := fun _ => (bare_cons rfl bare_nil), fr := (freeJ_cons ⟨trivial, trivial⟩ freeJ_nil), fh := fun v => (freeJ_cons ⟨trivial, trivial⟩ freeJ_nil), pn := pnJ hpin (by decide), ln := (gd_d hp168) }
   hp169) ea_nil))) ?_
  obtain ⟨p299, hp299, h_⟩ := bsplit h; replace h := h_; clear h_
  refine sl_cons (Γ1 := [some (.im (D.lst ((nodes).map D.int))), some (dkI (eFL D.int) leads), some (.im (D.lst ((hand_of).map D.int))), some (.li (((p299.1)).map (eTL D.int))), some (.li (((p299.2)).map (eTL D.int))), none, none, none, none, none, none]) (s_while (Γs := fun (s170 : ((List (List Int)) × (List (List Int)))) => [some (.im (D.lst ((nodes).map D.int))), some (dkI (eFL D.int) leads), some (.im (D.lst ((hand_of).map D.int))), some (.li (((s170.1)).map (eTL D.int))), some (.li (((s170.2)).map (eTL D.int))), none, none, none, none, none, none]) (s0 := (([] : (List (List Int))), p169.2)) (cb := (l_rings_of_L1c leads hand_of)) (f := (l_rings_of_L1 leads hand_of)) ?_ ?_ hp299) ?_
  · intro s170
    exact (et_neNilE (enc := (eTL D.int)) hr.units (ee_al 4 (pv 4)) (.al rfl) (oks_map _ fun _ _ => (show oks _ = true from oks_map _ fun _ _ => rfl)))
  · intro s170 s_170 hk170 hf170
    unfold l_rings_of_L1 at hf170
    refine sl_in ?_
    refine sl_cons (Γ1 := [some (.im (D.lst ((nodes).map D.int))), some (dkI (eFL D.int) leads), some (.im (D.lst ((hand_of).map D.int))), some (.li (((s170.1)).map (eTL D.int))), some (.li (((s170.2)).map (eTL D.int))), some (.li ((([] : (List (List Int)))).map (eTL D.int))), none, none, none, none, none]) (s_set (Γ1 := [some (.im (D.lst ((nodes).map D.int))), some (dkI (eFL D.int) leads), some (.im (D.lst ((hand_of).map D.int))), some (.li (((s170.1)).map (eTL D.int))), some (.li (((s170.2)).map (eTL D.int))), none, none, none, none, none, none]) (m := (.li ((([] : (List (List Int)))).map (eTL D.int)))) 5 sc_l_rings_of.nd rfl (by first | exact Or.inl rfl | exact Or.inr rfl) (np1 hpin (by decide)) (ee_lst (ds := []) ea_nil (show 0 ≤ 1000 by decide)) trivial) ?_
    obtain ⟨p298, hp298, hf170_⟩ := bsplit hf170; replace hf170 := hf170_; clear hf170_
    refine sl_cons (Γ1 := [some (.im (D.lst ((nodes).map D.int))), some (dkI (eFL D.int) leads), some (.im (D.lst ((hand_of).map D.int))), some (.li (((p298.1)).map (eTL D.int))), some (.li (((s170.2)).map (eTL D.int))), some (.li (((p298.2)).map (eTL D.int))), none, none, none, none, none]) (s_for (J := [6]) (enc := (eTL D.int)) (xs := ((s170.2))) (hx := (fun v => .hal 4 v)) (cond := (fun G => G[4]? = some (some (.li (((s170.2)).map (eTL D.int)))))) (f := (l_rings_of_L2 leads hand_of)) (s0 := ((s170.1), ([] : (List (List Int))))) (Γs := fun (s235 : ((List (List Int)) × (List (List Int)))) => [some (.im (D.lst ((nodes).map D.int))), some (dkI (eFL D.int) leads), some (.im (D.lst ((hand_of).map D.int))), some (.li (((s235.1)).map (eTL D.int))), some (.li (((s170.2)).map (eTL D.int))), some (.li (((s235.2)).map (eTL D.int))), none, none, none, none, none]) (Γt := fun (s235 : ((List (List Int)) × (List (List Int)))) (x235 : (List Int)) => [some (.im (D.lst ((nodes).map D.int))), some (dkI (eFL D.int) leads), some (.im (D.lst ((hand_of).map D.int))), some (.li (((s235.1)).map (eTL D.int))), some (.li (((s170.2)).map (eTL D.int))), some (.li (((s235.2)).map (eTL D.int))), some (.im (D.tup ((x235).map D.int))), none, none, none, none]) rfl Fix.hal (it_wk (Γ1 := [some (.im (D.lst ((nodes).map D.int))), some (dkI (eFL D.int) leads), some (.im (D.lst ((hand_of).map D.int))), some (.li (((s170.1)).map (eTL D.int))), some (.li (((s170.2)).map (eTL D.int))), some (.li ((([] : (List (List Int)))).map (eTL D.int))), none, none, none, none, none]) (it_lstV 4 (ee_al 4 (pv 4)) rfl) ⟨rfl, ⟨rfl, ⟨rfl, ⟨rfl, ⟨rfl, ⟨rfl, trivial⟩⟩⟩⟩⟩⟩) (fun _ => rfl) ?_ ?_ hp298) ?_
    · intro v235 s235 x235
      exact (gt_name 6 sc_l_rings_of.nd rfl (by first | exact Or.inl rfl | exact Or.inr rfl) (np1 hpin (by decide)) ⟨(show (4 : Nat) ≠ 6 by decide), trivial⟩ (by decide))
    · intro v235 s235 x235 s_235 hf235
      unfold l_rings_of_L2 at hf235
      refine sl_in ?_
      obtain ⟨p268, hp268, hf235_⟩ := bsplit hf235; replace hf235 := hf235_; clear hf235_
      obtain ⟨p270, hp270, hf235_⟩ := bsplit hf235; replace hf235 := hf235_; clear hf235_
      refine sl_cons (Γ1 := [some (.im (D.lst ((nodes).map D.int))), some (dkI (eFL D.int) leads), some (.im (D.lst ((hand_of).map D.int))), some (.li (((s235.1)).map (eTL D.int))), some (.li (((s170.2)).map (eTL D.int))), some (.li (((s235.2)).map (eTL D.int))), some (.im (D.tup ((x235).map D.int))), some (.im (D.lst ((p270.2).map D.int))), none, none, none]) (s_set (Γ1 := [some (.im (D.lst ((nodes).map D.int))), some (dkI (eFL D.int) leads), some (.im (D.lst ((hand_of).map D.int))), some (.li (((s235.1)).map (eTL D.int))), some (.li (((s170.2)).map (eTL D.int))), some (.li (((s235.2)).map (eTL D.int))), some (.im (D.tup ((x235).map D.int))), none, none, none, none]) (m := (.im (D.lst ((p270.2).map D.int)))) 7 sc_l_rings_of.nd rfl (by first | exact Or.inl rfl | exact Or.inr rfl) (np1 hpin (by decide)) (ee_lock (ee_lc (s1 := p270.1) (ys := p270.2) (f := (fun (t267 : Unit) (c267 : Int) => (atI hand_of c267).bind fun p269 => some ((), some p269))) (enc := D.int) (eb := D.int) (xs := (x235)) (s0 := ()) (hx := (fun v => .hid (.im (.tup ((x235).map D.int))) v)) (cond := (fun _ => True)) (Γs := fun (t267 : Unit) => [some (.im (D.lst ((nodes).map D.int))), some (dkI (eFL D.int) leads), some (.im (D.lst ((hand_of).map D.int))), some (.li (((s235.1)).map (eTL D.int))), some (.li (((s170.2)).map (eTL D.int))), some (.li (((s235.2)).map (eTL D.int))), some (.im (D.tup ((x235).map D.int))), none, none, none, none]) (Γt := fun (t267 : Unit) (c267 : Int) => [some (.im (D.lst ((nodes).map D.int))), some (dkI (eFL D.int) leads), some (.im (D.lst ((hand_of).map D.int))), some (.li (((s235.1)).map (eTL D.int))), some (.li (((s170.2)).map (eTL D.int))), some (.li (((s235.2)).map (eTL D.int))), some (.im (D.tup ((x235).map D.int))), none, none, some (.im (D.int c267)), none]) (Γu := fun (t267 : Unit) (c267 : Int) => [some (.im (D.lst ((nodes).map D.int))), some (dkI (eFL D.int) leads), some (.im (D.lst ((hand_of).map D.int))), some (.li (((s235.1)).map (eTL D.int))), some (.li (((s170.2)).map (eTL D.int))), some (.li (((s235.2)).map (eTL D.int))), some (.im (D.tup ((x235).map D.int))), none, none, some (.im (D.int c267)), none]) (tb := (fun _ _ => true)) rfl sc_l_rings_of.nd (blkOk_by (own := [("node", 9)]) (N := N_l_rings_of) (sc := defScope s_l_rings_of) (by decide +kernel))
   { fx := Fix.hid, it := it_wk (Γ1 := [some (.im (D.lst ((nodes).map D.int))), some (dkI (eFL D.int) leads), some (.im (D.lst ((hand_of).map D.int))), some (.li (((s235.1)).map (eTL D.int))), some (.li (((s170.2)).map (eTL D.int))), some (.li (((s235.2)).map (eTL D.int))), some (.im (D.tup ((x235).map D.int))), none, none, none, none]) (it_tup (ee_var 6 (pv 6))) ⟨rfl, ⟨rfl, ⟨rfl, ⟨rfl, ⟨rfl, ⟨rfl, ⟨rfl, trivial⟩⟩⟩⟩⟩⟩⟩, cd := fun _ => trivial, gt := fun s H Ca cl fp v q acc t267 c267 => (gt_name 9 sc_l_rings_of.nd rfl (by first | exact Or.inl rfl | exact Or.inr rfl) (np1 hpin (by decide)) ⟨(show (4 : Nat) ≠ 9 by decide), ⟨trivial, ⟨trivial, trivial⟩⟩⟩ (by decide)), tt := fun s H Ca cl fp v q acc t267 c267 _ => tests0,
        el := fun s H Ca cl fp v q acc t267 c267 st' y hk hf => by
            obtain ⟨p269, hp269, hf_⟩ := bsplit hf; replace hf := hf_; clear hf_; obtain ⟨hf1, hf2⟩ := Prod.mk.inj (Option.some.inj hf); subst hf1; replace hf2 := Option.some.inj hf2; subst hf2; exact ee_wk (Γ1 := [some (.im (D.lst ((nodes).map D.int))), some (dkI (eFL D.int) leads), some (.im (D.lst ((hand_of).map D.int))), some (.li (((s235.1)).map (eTL D.int))), some (.li (((s170.2)).map (eTL D.int))), some (.li (((s235.2)).map (eTL D.int))), some (.im (D.tup ((x235).map D.int))), none, none, some (.im (D.int c267)), none]) (ee_ixLE (enc := D.int) (ee_var 2 (pv 2)) (ee_var 9 (pv 9)) .fz hp269) ⟨rfl, ⟨rfl, ⟨rfl, ⟨rfl, ⟨rfl, ⟨rfl, ⟨rfl, trivial⟩⟩⟩⟩⟩⟩⟩,
        ft := fun t267 c267 r hk hf => by
            obtain ⟨p269, hp269, hf_⟩ := bsplit hf; replace hf := hf_; clear hf_; cases hf; exact ⟨_, rfl⟩,
        ff := fun t267 c267 r hk hf => Bool.noConfusion hk, br := fun _ => (bare_cons rfl bare_nil), fr := (freeJ_cons ⟨(show (4 : Nat) ≠ 9 by decide), trivial⟩ freeJ_nil), fh := fun v => (freeJ_cons ⟨trivial, trivial⟩ freeJ_nil), pn := pnJ hpin (by decide), ln := (gd_d hp268) }
   hp270)) ⟨(show (4 : Nat) ≠ 7 by decide), trivial⟩) ?_
      obtain ⟨p275, hp275, hf235_⟩ := bsplit hf235; replace hf235 := hf235_; clear hf235_
      obtain ⟨p279, hp279, hf235_⟩ := bsplit hf235; replace hf235 := hf235_; clear hf235_
      refine sl_cons (Γ1 := [some (.im (D.lst ((nodes).map D.int))), some (dkI (eFL D.int) leads), some (.im (D.lst ((hand_of).map D.int))), some (.li ((p279).map (eTL D.int))), some (.li (((s170.2)).map (eTL D.int))), some (.li (((s235.2)).map (eTL D.int))), some (.im (D.tup ((x235).map D.int))), some (.im (D.lst ((p270.2).map D.int))), none, none, none]) (s_if (ET.ofW (ew_and (Γ' := [some (.im (D.lst ((nodes).map D.int))), some (dkI (eFL D.int) leads), some (.im (D.lst ((hand_of).map D.int))), some (.li (((s235.1)).map (eTL D.int))), some (.li (((s170.2)).map (eTL D.int))), some (.li (((s235.2)).map (eTL D.int))), some (.im (D.tup ((x235).map D.int))), some (.im (D.lst ((p270.2).map D.int))), none, none, none]) (k := p275) (et_gt (ee_lenTE (enc := D.int) g_len (ee_var 6 (pv 6))) ee_int) (fun hk => by
            have e271 := (if_t hk).symm.trans hp275; obtain ⟨p272, hp272, e271_⟩ := bsplit e271; replace e271 := e271_; clear e271_; obtain ⟨p273, hp273, e271_⟩ := bsplit e271; replace e271 := e271_; clear e271_; obtain ⟨p274, hp274, e271_⟩ := bsplit e271; replace e271 := e271_; clear e271_; replace e271 := Option.some.inj e271; subst e271; exact (ew_and1 (et_inI (ee_ixTE (enc := D.int) (ee_var 6 (pv 6)) ee_int hp272) (ee_dkIxI (f := (eFL D.int)) (l := leads) hr.units 1 (pv 1) rfl (ee_ixTE (enc := D.int) (ee_var 6 (pv 6)) ee_negc hp273) hp274) (.l .fz)))) (fun hk => by have hq := (if_f hk).symm.trans hp275; cases hq; exact ⟨rfl, rfl⟩))) (fun hk => ?_) (fun hk => ?_)) ?_
      · refine sl_in ?_
        have e276 := (if_t hk).symm.trans hp279
        obtain ⟨p278, hp278, e276_⟩ := bsplit e276; replace e276 := e276_; clear e276_
        refine sl_cons (Γ1 := [some (.im (D.lst ((nodes).map D.int))), some (dkI (eFL D.int) leads), some (.im (D.lst ((hand_of).map D.int))), some (.li ((((s235.1) ++ [x235])).map (eTL D.int))), some (.li (((s170.2)).map (eTL D.int))), some (.li (((s235.2)).map (eTL D.int))), some (.im (D.tup ((x235).map D.int))), some (.im (D.lst ((p270.2).map D.int))), none, none, none]) (s_expr (t := .own (.im D.non)) (ee_appendE (Γ1 := [some (.im (D.lst ((nodes).map D.int))), some (dkI (eFL D.int) leads), some (.im (D.lst ((hand_of).map D.int))), some (.li (((s235.1)).map (eTL D.int))), some (.li (((s170.2)).map (eTL D.int))), some (.li (((s235.2)).map (eTL D.int))), some (.im (D.tup ((x235).map D.int))), some (.im (D.lst ((p270.2).map D.int))), none, none, none]) (enc := (eTL D.int)) (x := x235) 3 (pv 3) rfl (ee_var 6 (pv 6)) rfl (gd_d hp278))) ?_
        replace e276 := Option.some.inj e276
        subst e276
        exact sl_end ⟨rfl, ⟨rfl, ⟨rfl, ⟨rfl, ⟨rfl, ⟨rfl, ⟨rfl, ⟨rfl, trivial⟩⟩⟩⟩⟩⟩⟩⟩
      · refine sl_in ?_
        have e277 := (if_f hk).symm.trans hp279
        replace e277 := Option.some.inj e277
        subst e277
        exact sl_end ⟨rfl, ⟨rfl, ⟨rfl, ⟨rfl, ⟨rfl, ⟨rfl, ⟨rfl, ⟨rfl, trivial⟩⟩⟩⟩⟩⟩⟩⟩
      obtain ⟨p281, hp281, hf235_⟩ := bsplit hf235; replace hf235 := hf235_; clear hf235_
      obtain ⟨p282, hp282, hf235_⟩ := bsplit hf235; replace hf235 := hf235_; clear hf235_
      obtain ⟨p283, hp283, hf235_⟩ := bsplit hf235; replace hf235 := hf235_; clear hf235_
      obtain ⟨p286, hp286, hf235_⟩ := bsplit hf235; replace hf235 := hf235_; clear hf235_
      refine sl_cons (Γ1 := [some (.im (D.lst ((nodes).map D.int))), some (dkI (eFL D.int) leads), some (.im (D.lst ((hand_of).map D.int))), some (.li ((p279).map (eTL D.int))), some (.li (((s170.2)).map (eTL D.int))), some (.li (((s235.2)).map (eTL D.int))), some (.im (D.tup ((x235).map D.int))), some (.im (D.lst ((p270.2).map D.int))), some (.im (D.lst ((p286.2).map D.int))), none, none]) (s_lock 8 (Γ1 := [some (.im (D.lst ((nodes).map D.int))), some (dkI (eFL D.int) leads), some (.im (D.lst ((hand_of).map D.int))), some (.li ((p279).map (eTL D.int))), some (.li (((s170.2)).map (eTL D.int))), some (.li (((s235.2)).map (eTL D.int))), some (.im (D.tup ((x235).map D.int))), some (.im (D.lst ((p270.2).map D.int))), some (.li ((p286.2).map D.int)), none, none]) (s_setLc 8 (s1 := p286.1) (ys := p286.2) (f := (fun (t280 : Unit) (c280 : Int) => (((atI hand_of c280).bind fun p284 => (atI p270.2 0).bind fun p285 => some (decide (p285 < p284)))).bind fun tq => if tq = true then (some ((), some c280)) else some ((), none))) (enc := D.int) (eb := D.int) (xs := (p282)) (s0 := ()) (hx := (fun v => .hid (.im (.lst ((p282).map D.int))) v)) (cond := (fun _ => True)) (Γs := fun (t280 : Unit) => [some (.im (D.lst ((nodes).map D.int))), some (dkI (eFL D.int) leads), some (.im (D.lst ((hand_of).map D.int))), some (.li ((p279).map (eTL D.int))), some (.li (((s170.2)).map (eTL D.int))), some (.li (((s235.2)).map (eTL D.int))), some (.im (D.tup ((x235).map D.int))), some (.im (D.lst ((p270.2).map D.int))), none, none, none]) (Γt := fun (t280 : Unit) (c280 : Int) => [some (.im (D.lst ((nodes).map D.int))), some (dkI (eFL D.int) leads), some (.im (D.lst ((hand_of).map D.int))), some (.li ((p279).map (eTL D.int))), some (.li (((s170.2)).map (eTL D.int))), some (.li (((s235.2)).map (eTL D.int))), some (.im (D.tup ((x235).map D.int))), some (.im (D.lst ((p270.2).map D.int))), none, none, some (.im (D.int c280))]) (Γu := fun (t280 : Unit) (c280 : Int) => [some (.im (D.lst ((nodes).map D.int))), some (dkI (eFL D.int) leads), some (.im (D.lst ((hand_of).map D.int))), some (.li ((p279).map (eTL D.int))), some (.li (((s170.2)).map (eTL D.int))), some (.li (((s235.2)).map (eTL D.int))), some (.im (D.tup ((x235).map D.int))), some (.im (D.lst ((p270.2).map D.int))), none, none, some (.im (D.int c280))]) (tb := (fun t280 c280 => tbo ((atI hand_of c280).bind fun p284 => (atI p270.2 0).bind fun p285 => some (decide (p285 < p284))))) rfl sc_l_rings_of.nd rfl rfl (np1 hpin (by decide)) ⟨(show (4 : Nat) ≠ 8 by decide), trivial⟩ (blkOk_by (own := [("one", 10)]) (N := N_l_rings_of) (sc := defScope s_l_rings_of) (by decide +kernel))
   { fx := Fix.hid, it := it_wk (Γ1 := [some (.im (D.lst ((nodes).map D.int))), some (dkI (eFL D.int) leads), some (.im (D.lst ((hand_of).map D.int))), some (.li ((p279).map (eTL D.int))), some (.li (((s170.2)).map (eTL D.int))), some (.li (((s235.2)).map (eTL D.int))), some (.im (D.tup ((x235).map D.int))), some (.im (D.lst ((p270.2).map D.int))), none, none, none]) (it_lstF (ee_dkIxI (f := (eFL D.int)) (l := leads) hr.units 1 (pv 1) rfl (ee_ixTE (enc := D.int) (ee_var 6 (pv 6)) ee_negc hp281) hp282)) ⟨rfl, ⟨rfl, ⟨rfl, ⟨rfl, ⟨rfl, ⟨rfl, ⟨rfl, ⟨rfl, trivial⟩⟩⟩⟩⟩⟩⟩⟩, cd := fun _ => trivial, gt := fun s H Ca cl fp v q acc t280 c280 => (gt_name 10 sc_l_rings_of.nd rfl (by first | exact Or.inl rfl | exact Or.inr rfl) (np1 hpin (by decide)) ⟨(show (4 : Nat) ≠ 10 by decide), ⟨trivial, ⟨trivial, trivial⟩⟩⟩ (by decide)), tt := fun s H Ca cl fp v q acc t280 c280 ⟨rq, hrq⟩ => by
            obtain ⟨t, ht, hrq⟩ := bsplit hrq; have hz : tbo ((atI hand_of c280).bind fun p284 => (atI p270.2 0).bind fun p285 => some (decide (p285 < p284))) = t := tbo_t ht; obtain ⟨p284, hp284, ht_⟩ := bsplit ht; replace ht := ht_; clear ht_; obtain ⟨p285, hp285, ht_⟩ := bsplit ht; replace ht := ht_; clear ht_; replace ht := Option.some.inj ht; subst ht; rw [hz]; exact tests1 (et_gt (ee_ixLE (enc := D.int) (ee_var 2 (pv 2)) (ee_var 10 (pv 10)) .fz hp284) (ee_ixLE (enc := D.int) (ee_var 7 (pv 7)) ee_int .fz hp285)),
        el := fun s H Ca cl fp v q acc t280 c280 st' y hk hf => by
            obtain ⟨tq, ht, hf_⟩ := bsplit hf; replace hf := hf_; clear hf_; have hk : tq = true := (tbo_t ht).symm.trans hk; replace hf := (if_t hk).symm.trans hf; obtain ⟨hf1, hf2⟩ := Prod.mk.inj (Option.some.inj hf); subst hf1; replace hf2 := Option.some.inj hf2; subst hf2; exact ee_wk (Γ1 := [some (.im (D.lst ((nodes).map D.int))), some (dkI (eFL D.int) leads), some (.im (D.lst ((hand_of).map D.int))), some (.li ((p279).map (eTL D.int))), some (.li (((s170.2)).map (eTL D.int))), some (.li (((s235.2)).map (eTL D.int))), some (.im (D.tup ((x235).map D.int))), some (.im (D.lst ((p270.2).map D.int))), none, none, some (.im (D.int c280))]) (ee_var 10 (pv 10)) ⟨rfl, ⟨rfl, ⟨rfl, ⟨rfl, ⟨rfl, ⟨rfl, ⟨rfl, ⟨rfl, trivial⟩⟩⟩⟩⟩⟩⟩⟩,
        ft := fun t280 c280 r hk hf => by
            obtain ⟨tq, ht, hf_⟩ := bsplit hf; replace hf := hf_; clear hf_; have hk : tq = true := (tbo_t ht).symm.trans hk; replace hf := (if_t hk).symm.trans hf; cases hf; exact ⟨_, rfl⟩,
        ff := fun t280 c280 r hk hf => by obtain ⟨tq, ht, hf_⟩ := bsplit hf; replace hf := hf_; clear hf_; have hk : tq = false := (tbo_t ht).symm.trans hk; replace hf := (if_f hk).symm.trans hf; cases hf; exact ⟨rfl, ⟨rfl, ⟨rfl, ⟨rfl, ⟨rfl, ⟨rfl, ⟨rfl, ⟨rfl, ⟨rfl, trivial⟩⟩⟩⟩⟩⟩⟩⟩⟩, br := fun _ => (bare_cons rfl bare_nil), fr := (freeJ_cons ⟨(show (4 : Nat) ≠ 10 by decide), trivial⟩ freeJ_nil), fh := fun v => (freeJ_cons ⟨trivial, trivial⟩ freeJ_nil), pn := pnJ hpin (by decide), ln := (gd_d hp283) }
   hp286 (sw_true rfl rfl rfl (by decide +kernel))) rfl) ?_
      obtain ⟨p293, hp293, hf235_⟩ := bsplit hf235; replace hf235 := hf235_; clear hf235_
      obtain ⟨p296, hp296, hf235_⟩ := bsplit hf235; replace hf235 := hf235_; clear hf235_
      obtain ⟨p297, hp297, hf235_⟩ := bsplit hf235; replace hf235 := hf235_; clear hf235_
      refine sl_cons (Γ1 := [some (.im (D.lst ((nodes).map D.int))), some (dkI (eFL D.int) leads), some (.im (D.lst ((hand_of).map D.int))), some (.li ((p279).map (eTL D.int))), some (.li (((s170.2)).map (eTL D.int))), some (.li ((((s235.2) ++ p296.2)).map (eTL D.int))), some (.im (D.tup ((x235).map D.int))), some (.im (D.lst ((p270.2).map D.int))), some (.im (D.lst ((p286.2).map D.int))), none, none]) (s_expr (t := .own (.im D.non)) (ee_extendE (Γ1 := [some (.im (D.lst ((nodes).map D.int))), some (dkI (eFL D.int) leads), some (.im (D.lst ((hand_of).map D.int))), some (.li ((p279).map (eTL D.int))), some (.li (((s170.2)).map (eTL D.int))), some (.li (((s235.2)).map (eTL D.int))), some (.im (D.tup ((x235).map D.int))), some (.im (D.lst ((p270.2).map D.int))), some (.im (D.lst ((p286.2).map D.int))), none, none]) (ys := p296.2) (enc := (eTL D.int)) 5 (pv 5) rfl (ee_lc (s1 := p296.1) (ys := p296.2) (f := (fun (t292 : Unit) (c292 : Int) => (((atI hand_of c292).bind fun p294 => some (!(decide (p294 ∈ p270.2))))).bind fun tq => if tq = true then ((gd (decide ((x235).length + (([c292] : (List Int))).length ≤ sizeLine))).bind fun p295 => some ((), some (x235 ++ ([c292] : (List Int))))) else some ((), none))) (enc := D.int) (eb := (eTL D.int)) (xs := (p286.2)) (s0 := ()) (hx := (fun v => .hid (.im (.lst ((p286.2).map D.int))) v)) (cond := (fun _ => True)) (Γs := fun (t292 : Unit) => [some (.im (D.lst ((nodes).map D.int))), some (dkI (eFL D.int) leads), some (.im (D.lst ((hand_of).map D.int))), some (.li ((p279).map (eTL D.int))), some (.li (((s170.2)).map (eTL D.int))), some (.li (((s235.2)).map (eTL D.int))), some (.im (D.tup ((x235).map D.int))), some (.im (D.lst ((p270.2).map D.int))), some (.im (D.lst ((p286.2).map D.int))), none, none]) (Γt := fun (t292 : Unit) (c292 : Int) => [some (.im (D.lst ((nodes).map D.int))), some (dkI (eFL D.int) leads), some (.im (D.lst ((hand_of).map D.int))), some (.li ((p279).map (eTL D.int))), some (.li (((s170.2)).map (eTL D.int))), some (.li (((s235.2)).map (eTL D.int))), some (.im (D.tup ((x235).map D.int))), some (.im (D.lst ((p270.2).map D.int))), some (.im (D.lst ((p286.2).map D.int))), none, some (.im (D.int c292))]) (Γu := fun (t292 : Unit) (c292 : Int) => [some (.im (D.lst ((nodes).map D.int))), some (dkI (eFL D.int) leads), some (.im (D.lst ((hand_of).map D.int))), some (.li ((p279).map (eTL D.int))), some (.li (((s170.2)).map (eTL D.int))), some (.li (((s235.2)).map (eTL D.int))), some (.im (D.tup ((x235).map D.int))), some (.im (D.lst ((p270.2).map D.int))), some (.im (D.lst ((p286.2).map D.int))), none, some (.im (D.int c292))]) (tb := (fun t292 c292 => tbo ((atI hand_of c292).bind fun p294 => some (!(decide (p294 ∈ p270.2)))))) rfl sc_l_rings_of.nd (blkOk_by (own := [("one", 10)]) (N := N_l_rings_of) (sc := defScope s_l_rings_of) (by decide +kernel))
   { fx := Fix.hid, it := it_wk (Γ1 := [some (.im (D.lst ((nodes).map D.int))), some (dkI (eFL D.int) leads), some (.im (D.lst ((hand_of).map D.int))), some (.li ((p279).map (eTL D.int))), some (.li (((s170.2)).map (eTL D.int))), some (.li (((s235.2)).map (eTL D.int))), some (.im (D.tup ((x235).map D.int))), some (.im (D.lst ((p270.2).map D.int))), some (.im (D.lst ((p286.2).map D.int))), none, none]) (it_lstF (ee_var 8 (pv 8))) ⟨rfl, ⟨rfl, ⟨rfl, ⟨rfl, ⟨rfl, ⟨rfl, ⟨rfl, ⟨rfl, ⟨rfl, trivial⟩⟩⟩⟩⟩⟩⟩⟩⟩, cd := fun _ => trivial, gt := fun s H Ca cl fp v q acc t292 c292 => (gt_name 10 sc_l_rings_of.nd rfl (by first | exact Or.inl rfl | exact Or.inr rfl) (np1 hpin (by decide)) ⟨(show (4 : Nat) ≠ 10 by decide), ⟨(show (5 : Nat) ≠ 10 by decide), ⟨trivial, ⟨trivial, trivial⟩⟩⟩⟩ (by decide)), tt := fun s H Ca cl fp v q acc t292 c292 ⟨rq, hrq⟩ => by
            obtain ⟨t, ht, hrq⟩ := bsplit hrq; have hz : tbo ((atI hand_of c292).bind fun p294 => some (!(decide (p294 ∈ p270.2)))) = t := tbo_t ht; obtain ⟨p294, hp294, ht_⟩ := bsplit ht; replace ht := ht_; clear ht_; replace ht := Option.some.inj ht; subst ht; rw [hz]; exact tests1 (et_ninI (ee_ixLE (enc := D.int) (ee_var 2 (pv 2)) (ee_var 10 (pv 10)) .fz hp294) (ee_var 7 (pv 7)) (.l .fz)),
        el := fun s H Ca cl fp v q acc t292 c292 st' y hk hf => by
            obtain ⟨tq, ht, hf_⟩ := bsplit hf; replace hf := hf_; clear hf_; have hk : tq = true := (tbo_t ht).symm.trans hk; replace hf := (if_t hk).symm.trans hf; obtain ⟨p295, hp295, hf_⟩ := bsplit hf; replace hf := hf_; clear hf_; obtain ⟨hf1, hf2⟩ := Prod.mk.inj (Option.some.inj hf); subst hf1; replace hf2 := Option.some.inj hf2; subst hf2; exact ee_wk (Γ1 := [some (.im (D.lst ((nodes).map D.int))), some (dkI (eFL D.int) leads), some (.im (D.lst ((hand_of).map D.int))), some (.li ((p279).map (eTL D.int))), some (.li (((s170.2)).map (eTL D.int))), some (.li (((s235.2)).map (eTL D.int))), some (.im (D.tup ((x235).map D.int))), some (.im (D.lst ((p270.2).map D.int))), some (.im (D.lst ((p286.2).map D.int))), none, some (.im (D.int c292))]) (ee_catTE (enc := D.int) (xs := x235) (ys := ([c292] : (List Int))) (ee_var 6 (pv 6)) (ee_tup (ds := [(D.int c292)]) (ea_cons (ee_var 10 (pv 10)) ea_nil) (show 1 ≤ 1000 by decide)) (gd_d hp295)) ⟨rfl, ⟨rfl, ⟨rfl, ⟨rfl, ⟨rfl, ⟨rfl, ⟨rfl, ⟨rfl, ⟨rfl, trivial⟩⟩⟩⟩⟩⟩⟩⟩⟩,
        ft := fun t292 c292 r hk hf => by
            obtain ⟨tq, ht, hf_⟩ := bsplit hf; replace hf := hf_; clear hf_; have hk : tq = true := (tbo_t ht).symm.trans hk; replace hf := (if_t hk).symm.trans hf; obtain ⟨p295, hp295, hf_⟩ := bsplit hf; replace hf := hf_; clear hf_; cases hf; exact ⟨_, rfl⟩,
        ff := fun t292 c292 r hk hf => by obtain ⟨tq, ht, hf_⟩ := bsplit hf; replace hf := hf_; clear hf_; have hk : tq = false := (tbo_t ht).symm.trans hk; replace hf := (if_f hk).symm.trans hf; cases hf; exact ⟨rfl, ⟨rfl, ⟨rfl, ⟨rfl, ⟨rfl, ⟨rfl, ⟨rfl, ⟨rfl, ⟨rfl, ⟨rfl, trivial⟩⟩⟩⟩⟩⟩⟩⟩⟩⟩, br := fun _ => (bare_cons rfl bare_nil), fr := (freeJ_cons ⟨(show (4 : Nat) ≠ 10 by decide), ⟨(show (5 : Nat) ≠ 10 by decide), trivial⟩⟩ freeJ_nil), fh := fun v => (freeJ_cons ⟨trivial, trivial⟩ freeJ_nil), pn := pnJ hpin (by decide), ln := (gd_d hp293) }
   hp296) rfl .own (gd_d hp297))) ?_
      replace hf235 := Option.some.inj hf235
      subst hf235
      exact sl_end ⟨rfl, ⟨rfl, ⟨rfl, ⟨rfl, ⟨rfl, ⟨rfl, trivial⟩⟩⟩⟩⟩⟩
    refine sl_cons (Γ1 := [some (.im (D.lst ((nodes).map D.int))), some (dkI (eFL D.int) leads), some (.im (D.lst ((hand_of).map D.int))), some (.li (((p298.1)).map (eTL D.int))), some (.li (((p298.2)).map (eTL D.int))), none, none, none, none, none, none]) (s_set (Γ1 := [some (.im (D.lst ((nodes).map D.int))), some (dkI (eFL D.int) leads), some (.im (D.lst ((hand_of).map D.int))), some (.li (((p298.1)).map (eTL D.int))), some (.li (((s170.2)).map (eTL D.int))), none, none, none, none, none, none]) (m := (.li (((p298.2)).map (eTL D.int)))) 4 sc_l_rings_of.nd rfl (by first | exact Or.inl rfl | exact Or.inr rfl) (np1 hpin (by decide)) (ee_mv 5 (pv 5)) trivial) ?_
    replace hf170 := Option.some.inj hf170
    subst hf170
    exact sl_end ⟨rfl, ⟨rfl, ⟨rfl, ⟨rfl, ⟨rfl, trivial⟩⟩⟩⟩⟩
  obtain ⟨p300, hp300, h_⟩ := bsplit h; replace h := h_; clear h_
  replace h := Option.some.inj h
  subst h
  exact sl_exit (s_ret (Γ1 := [some (.im (D.lst ((nodes).map D.int))), some (dkI (eFL D.int) leads), some (.im (D.lst ((hand_of).map D.int))), some (.li (((p299.1)).map (eTL D.int))), some (.li (((p299.2)).map (eTL D.int))), none, none, none, none, none, none]) (m := (.im (D.lst (((srtE (eTL D.int) (p299.1))).map (eTL D.int))))) (ee_lock (ee_sortedE (f := (eTL D.int)) (k := 5) hr.units g_sorted (eqt_tl eqt_int) (by decide) (al_tl al_int) (so_tl (gd_t hp300)) (ee_al 3 (pv 3)) (.l (.al rfl)))) ⟨rfl, trivial⟩) rfl
/-! ### law_hand_rings -/
abbrev N_l_hand_rings : List Str := ["house", "room", "words", "hands", "leads", "hand", "way", "other"]
theorem sc_l_hand_rings : FnScope N_l_hand_rings ["house", "room", "words"] (defScope s_l_hand_rings) := ⟨rfl, rfl, rfl, by decide +kernel, rfl, by decide +kernel, by decide +kernel⟩
def l_hand_rings_L1 (house : tHouse) (room : Int) (words : tRow) (hands : (List Int)) (s : (List (Int × (List Int)))) (x : Int) : Option (List (Int × (List Int))) := (gd (decide (((hands)).length ≤ sizeLine))).bind fun p307 => (lcM (fun (t306 : Unit) (c306 : Int) => (((atI (house.1) room).bind fun p308 => (p308).bind fun p309 => (atI (p309.1) x).bind fun p310 => (atI p310 c306).bind fun p311 => some (decide (p311 ∈ words)))).bind fun tq => if tq = true then (some ((), some c306)) else some ((), none)) () (hands)).bind fun p312 => (gd (decide ((s).length < sizeLine))).bind fun p313 => some (putE s x p312.2)
def l_hand_rings_m (house : tHouse) (room : Int) (words : tRow) : Option (List (List Int)) := (gd (decide (((numL (house.2))).length ≤ sizeLine))).bind fun p302 => (lcM (fun (t301 : Unit) (c301 : (Int × tWay)) => (((inDD (eStep (("in" : Str), room)) (((c301.2)).map eStep)).bind fun p303 => some p303)).bind fun tq => if tq = true then (some ((), some (c301.1))) else some ((), none)) () (numL (house.2))).bind fun p304 => (forS (l_hand_rings_L1 house room words p304.2) ([] : (List (Int × (List Int)))) (p304.2)).bind fun p322 => (gd (decide (0 ≤ (((house.2)).length : Int)))).bind fun p323 => (gd (decide ((((house.2)).length : Int) ≤ 1000000))).bind fun p324 => (l_rings_of_m p304.2 p322 (rng 0 (((house.2)).length : Int))).bind fun p325 => some (p325.1)
abbrev l_hand_ringsR : List M → M → List M → Prop := fun ms r ms' => ∃ (house : tHouse) (room : Int) (words : tRow) (out : (List (List Int))), l_hand_rings_m house room words = some out ∧ ms = [(.im (eHouse house)), (.im (D.int room)), (.im (D.tup ((words).map D.str)))] ∧ r = (.im (D.lst ((out).map (eTL D.int)))) ∧ ms' = []
theorem l_hand_rings_ok {P : Program} {w : World} {K : PySem.W.Frag} {mg : Str → Option Value} {base : Heap} {f : Addr} {fd : FuncData} (F : FnP K "_law_hand_rings" s_l_hand_rings f fd) {f_l_rings_of : Addr} {fd_l_rings_of : FuncData} (G_l_rings_of : FnG P w K mg base 1 f_l_rings_of fd_l_rings_of ["nodes", "leads", "hand_of"] (spR K 3 [1] l_rings_ofR)) (F_l_rings_of : FnP K "_law_rings_of" s_l_rings_of f_l_rings_of fd_l_rings_of) (g_l_rings_of : mg "_law_rings_of" = some (.ref f_l_rings_of)) (g_enumerate : mg "enumerate" = none) (g_len : mg "len" = none) (g_list : mg "list" = none) (g_range : mg "range" = none) : FnG P w K mg base 2 f fd ["house", "room", "words"] (spR K 3 [] l_hand_ringsR) := by
  refine fn_body (k := 1) F sc_l_hand_rings rfl (by decide) (by decide) (by decide) (by rintro ms r ms' ⟨house, room, words, out, _, rfl, _, rfl⟩; exact ⟨rfl, rfl⟩) ?_
  rintro cdv A outer s H E H0 io pin mio hpin hr hG ms r ms' ⟨house, room, words, out, h, rfl, rfl, rfl⟩
  refine ⟨[none, none, none, none, none, none, none, none], ?_, fun k i m h1 h2 => by simp at h1⟩
  unfold l_hand_rings_m at h
  refine sl_in ?_
  have kp_l_rings_of := F_l_rings_of.kp
  have b_l_rings_of : Binds K fd_l_rings_of ["nodes", "leads", "hand_of"] [] := F_l_rings_of.bindsN fun _ _ _ _ _ _ us hl => match us, hl with | [_, _, _], _ => rfl
  obtain ⟨p302, hp302, h_⟩ := bsplit h; replace h := h_; clear h_
  obtain ⟨p304, hp304, h_⟩ := bsplit h; replace h := h_; clear h_
  refine sl_cons (Γ1 := [some (.im (eHouse house)), some (.im (D.int room)), some (.im (D.tup ((words).map D.str))), some (.im (D.lst ((p304.2).map D.int))), none, none, none, none]) (s_lock 3 (Γ1 := [some (.im (eHouse house)), some (.im (D.int room)), some (.im (D.tup ((words).map D.str))), some (.li ((p304.2).map D.int)), none, none, none, none]) (s_setLc 3 (s1 := p304.1) (ys := p304.2) (f := (fun (t301 : Unit) (c301 : (Int × tWay)) => (((inDD (eStep (("in" : Str), room)) (((c301.2)).map eStep)).bind fun p303 => some p303)).bind fun tq => if tq = true then (some ((), some (c301.1))) else some ((), none))) (enc := (encI eWay)) (eb := D.int) (xs := (numL (house.2))) (s0 := ()) (hx := (fun v => .hid (.im (.tup (((house.2)).map eWay))) v)) (cond := (fun _ => True)) (Γs := fun (t301 : Unit) => [some (.im (eHouse house)), some (.im (D.int room)), some (.im (D.tup ((words).map D.str))), none, none, none, none, none]) (Γt := fun (t301 : Unit) (c301 : (Int × tWay)) => [some (.im (eHouse house)), some (.im (D.int room)), some (.im (D.tup ((words).map D.str))), none, none, some (.im (D.int (c301.1))), some (.im (D.tup (((c301.2)).map eStep))), none]) (Γu := fun (t301 : Unit) (c301 : (Int × tWay)) => [some (.im (eHouse house)), some (.im (D.int room)), some (.im (D.tup ((words).map D.str))), none, none, some (.im (D.int (c301.1))), some (.im (D.tup (((c301.2)).map eStep))), none]) (tb := (fun t301 c301 => tbo ((inDD (eStep (("in" : Str), room)) (((c301.2)).map eStep)).bind fun p303 => some p303))) rfl sc_l_hand_rings.nd rfl rfl (np1 hpin (by decide)) trivial (blkOk_by (own := [("hand", 5), ("way", 6)]) (N := N_l_hand_rings) (sc := defScope s_l_hand_rings) (by decide +kernel))
   { fx := Fix.hid, it := it_wk (Γ1 := [some (.im (eHouse house)), some (.im (D.int room)), some (.im (D.tup ((words).map D.str))), none, none, none, none, none]) (by rw [← enumD_map]; exact it_enumT g_enumerate (ee_ixT (ee_var 0 (pv 0)) ee_int rfl)) ⟨rfl, ⟨rfl, ⟨rfl, trivial⟩⟩⟩, cd := fun _ => trivial, gt := fun s H Ca cl fp v q acc t301 c301 => (gt_tup rfl (gts_cons (gt_name 5 sc_l_hand_rings.nd rfl (by first | exact Or.inl rfl | exact Or.inr rfl) (np1 hpin (by decide)) ⟨trivial, ⟨trivial, trivial⟩⟩ (by decide)) (gts_cons (gt_name 6 sc_l_hand_rings.nd rfl (by first | exact Or.inl rfl | exact Or.inr rfl) (np1 hpin (by decide)) ⟨trivial, ⟨trivial, trivial⟩⟩ (by decide)) gts_nil))), tt := fun s H Ca cl fp v q acc t301 c301 ⟨rq, hrq⟩ => by
            obtain ⟨t, ht, hrq⟩ := bsplit hrq; have hz : tbo ((inDD (eStep (("in" : Str), room)) (((c301.2)).map eStep)).bind fun p303 => some p303) = t := tbo_t ht; obtain ⟨p303, hp303, ht_⟩ := bsplit ht; replace ht := ht_; clear ht_; replace ht := Option.some.inj ht; subst ht; rw [hz]; exact tests1 (et_inDD hr.units (ee_tup (ds := [(D.str ("in" : Str)), (D.int room)]) (ea_cons ee_str (ea_cons (ee_var 1 (pv 1)) ea_nil)) (show 2 ≤ 1000 by decide)) (ee_var 6 (pv 6)) .t hp303),
        el := fun s H Ca cl fp v q acc t301 c301 st' y hk hf => by
            obtain ⟨tq, ht, hf_⟩ := bsplit hf; replace hf := hf_; clear hf_; have hk : tq = true := (tbo_t ht).symm.trans hk; replace hf := (if_t hk).symm.trans hf; obtain ⟨hf1, hf2⟩ := Prod.mk.inj (Option.some.inj hf); subst hf1; replace hf2 := Option.some.inj hf2; subst hf2; exact ee_wk (Γ1 := [some (.im (eHouse house)), some (.im (D.int room)), some (.im (D.tup ((words).map D.str))), none, none, some (.im (D.int (c301.1))), some (.im (D.tup (((c301.2)).map eStep))), none]) (ee_var 5 (pv 5)) ⟨rfl, ⟨rfl, ⟨rfl, trivial⟩⟩⟩,
        ft := fun t301 c301 r hk hf => by
            obtain ⟨tq, ht, hf_⟩ := bsplit hf; replace hf := hf_; clear hf_; have hk : tq = true := (tbo_t ht).symm.trans hk; replace hf := (if_t hk).symm.trans hf; cases hf; exact ⟨_, rfl⟩,
        ff := fun t301 c301 r hk hf => by obtain ⟨tq, ht, hf_⟩ := bsplit hf; replace hf := hf_; clear hf_; have hk : tq = false := (tbo_t ht).symm.trans hk; replace hf := (if_f hk).symm.trans hf; cases hf; exact ⟨rfl, ⟨rfl, ⟨rfl, ⟨rfl, trivial⟩⟩⟩⟩, br := fun _ => (bare_cons rfl (bare_cons rfl bare_nil)), fr := (freeJ_cons trivial (freeJ_cons trivial freeJ_nil)), fh := fun v => (freeJ_cons ⟨trivial, trivial⟩ (freeJ_cons ⟨trivial, trivial⟩ freeJ_nil)), pn := pnJ hpin (by decide), ln := (gd_d hp302) }
   hp304 (sw_true rfl rfl rfl (by decide +kernel))) rfl) ?_
  refine sl_cons (Γ1 := [some (.im (eHouse house)), some (.im (D.int room)), some (.im (D.tup ((words).map D.str))), some (.im (D.lst ((p304.2).map D.int))), some (dkI (eFL D.int) ([] : (List (Int × (List Int))))), none, none, none]) (s_set (Γ1 := [some (.im (eHouse house)), some (.im (D.int room)), some (.im (D.tup ((words).map D.str))), some (.im (D.lst ((p304.2).map D.int))), none, none, none, none]) (m := (dkI (eFL D.int) ([] : (List (Int × (List Int)))))) 4 sc_l_hand_rings.nd rfl (by first | exact Or.inl rfl | exact Or.inr rfl) (np1 hpin (by decide)) ee_dict0 trivial) ?_
  obtain ⟨p322, hp322, h_⟩ := bsplit h; replace h := h_; clear h_
  refine sl_cons (Γ1 := [some (.im (eHouse house)), some (.im (D.int room)), some (.im (D.tup ((words).map D.str))), some (.im (D.lst ((p304.2).map D.int))), some (dkI (eFL D.int) p322), none, none, none]) (s_for (J := [5]) (enc := D.int) (xs := (p304.2)) (hx := (fun v => .hid (.im (.lst ((p304.2).map D.int))) v)) (cond := (fun _ => True)) (f := (l_hand_rings_L1 house room words p304.2)) (s0 := ([] : (List (Int × (List Int))))) (Γs := fun (s305 : (List (Int × (List Int)))) => [some (.im (eHouse house)), some (.im (D.int room)), some (.im (D.tup ((words).map D.str))), some (.im (D.lst ((p304.2).map D.int))), some (dkI (eFL D.int) s305), none, none, none]) (Γt := fun (s305 : (List (Int × (List Int)))) (x305 : Int) => [some (.im (eHouse house)), some (.im (D.int room)), some (.im (D.tup ((words).map D.str))), some (.im (D.lst ((p304.2).map D.int))), some (dkI (eFL D.int) s305), some (.im (D.int x305)), none, none]) rfl Fix.hid (it_wk (Γ1 := [some (.im (eHouse house)), some (.im (D.int room)), some (.im (D.tup ((words).map D.str))), some (.im (D.lst ((p304.2).map D.int))), some (dkI (eFL D.int) ([] : (List (Int × (List Int))))), none, none, none]) (it_lstF (ee_var 3 (pv 3))) ⟨rfl, ⟨rfl, ⟨rfl, ⟨rfl, ⟨rfl, trivial⟩⟩⟩⟩⟩) (fun _ => trivial) ?_ ?_ hp322) ?_
  · intro v305 s305 x305
    exact (gt_name 5 sc_l_hand_rings.nd rfl (by first | exact Or.inl rfl | exact Or.inr rfl) (np1 hpin (by decide)) ⟨trivial, trivial⟩ (by decide))
  · intro v305 s305 x305 s_305 hf305
    unfold l_hand_rings_L1 at hf305
    refine sl_in ?_
    obtain ⟨p315, hp315, hf305_⟩ := bsplit hf305; replace hf305 := hf305_; clear hf305_
    obtain ⟨p320, hp320, hf305_⟩ := bsplit hf305; replace hf305 := hf305_; clear hf305_
    obtain ⟨p321, hp321, hf305_⟩ := bsplit hf305; replace hf305 := hf305_; clear hf305_
    refine sl_cons (Γ1 := [some (.im (eHouse house)), some (.im (D.int room)), some (.im (D.tup ((words).map D.str))), some (.im (D.lst ((p304.2).map D.int))), some (dkI (eFL D.int) (putE s305 x305 p320.2)), some (.im (D.int x305)), none, none]) (s_asgU (Γ1 := [some (.im (eHouse house)), some (.im (D.int room)), some (.im (D.tup ((words).map D.str))), some (.im (D.lst ((p304.2).map D.int))), some (dkI (eFL D.int) s305), some (.im (D.int x305)), none, none]) (ee_lock (ee_lc (s1 := p320.1) (ys := p320.2) (f := (fun (t314 : Unit) (c314 : Int) => (((atI (house.1) room).bind fun p316 => (p316).bind fun p317 => (atI (p317.1) x305).bind fun p318 => (atI p318 c314).bind fun p319 => some (decide (p319 ∈ words)))).bind fun tq => if tq = true then (some ((), some c314)) else some ((), none))) (enc := D.int) (eb := D.int) (xs := (p304.2)) (s0 := ()) (hx := (fun v => .hid (.im (.lst ((p304.2).map D.int))) v)) (cond := (fun _ => True)) (Γs := fun (t314 : Unit) => [some (.im (eHouse house)), some (.im (D.int room)), some (.im (D.tup ((words).map D.str))), some (.im (D.lst ((p304.2).map D.int))), some (dkI (eFL D.int) s305), some (.im (D.int x305)), none, none]) (Γt := fun (t314 : Unit) (c314 : Int) => [some (.im (eHouse house)), some (.im (D.int room)), some (.im (D.tup ((words).map D.str))), some (.im (D.lst ((p304.2).map D.int))), some (dkI (eFL D.int) s305), some (.im (D.int x305)), none, some (.im (D.int c314))]) (Γu := fun (t314 : Unit) (c314 : Int) => [some (.im (eHouse house)), some (.im (D.int room)), some (.im (D.tup ((words).map D.str))), some (.im (D.lst ((p304.2).map D.int))), some (dkI (eFL D.int) s305), some (.im (D.int x305)), none, some (.im (D.int c314))]) (tb := (fun t314 c314 => tbo ((atI (house.1) room).bind fun p316 => (p316).bind fun p317 => (atI (p317.1) x305).bind fun p318 => (atI p318 c314).bind fun p319 => some (decide (p319 ∈ words))))) rfl sc_l_hand_rings.nd (blkOk_by (own := [("other", 7)]) (N := N_l_hand_rings) (sc := defScope s_l_hand_rings) (by decide +kernel))
   { fx := Fix.hid, it := it_wk (Γ1 := [some (.im (eHouse house)), some (.im (D.int room)), some (.im (D.tup ((words).map D.str))), some (.im (D.lst ((p304.2).map D.int))), some (dkI (eFL D.int) s305), some (.im (D.int x305)), none, none]) (it_lstF (ee_var 3 (pv 3))) ⟨rfl, ⟨rfl, ⟨rfl, ⟨rfl, ⟨rfl, ⟨rfl, trivial⟩⟩⟩⟩⟩⟩, cd := fun _ => trivial, gt := fun s H Ca cl fp v q acc t314 c314 => (gt_name 7 sc_l_hand_rings.nd rfl (by first | exact Or.inl rfl | exact Or.inr rfl) (np1 hpin (by decide)) ⟨trivial, ⟨trivial, ⟨trivial, trivial⟩⟩⟩ (by decide)), tt := fun s H Ca cl fp v q acc t314 c314 ⟨rq, hrq⟩ => by
            obtain ⟨t, ht, hrq⟩ := bsplit hrq; have hz : tbo ((atI (house.1) room).bind fun p316 => (p316).bind fun p317 => (atI (p317.1) x305).bind fun p318 => (atI p318 c314).bind fun p319 => some (decide (p319 ∈ words))) = t := tbo_t ht; obtain ⟨p316, hp316, ht_⟩ := bsplit ht; replace ht := ht_; clear ht_; obtain ⟨p317, hp317, ht_⟩ := bsplit ht; replace ht := ht_; clear ht_; obtain ⟨p318, hp318, ht_⟩ := bsplit ht; replace ht := ht_; clear ht_; obtain ⟨p319, hp319, ht_⟩ := bsplit ht; replace ht := ht_; clear ht_; replace ht := Option.some.inj ht; subst ht; rw [hz]; exact tests1 (et_inS (ee_ixTE (enc := D.str) (ee_ixTE (enc := eRow) (ee_ixT (ee_some (f := eDoor) (ee_ixTE (enc := (eO eDoor)) (ee_ixT (ee_var 0 (pv 0)) ee_int rfl) (ee_var 1 (pv 1)) hp316) hp317) ee_int rfl) (ee_var 5 (pv 5)) hp318) (ee_var 7 (pv 7)) hp319) (ee_var 2 (pv 2)) .t),
        el := fun s H Ca cl fp v q acc t314 c314 st' y hk hf => by
            obtain ⟨tq, ht, hf_⟩ := bsplit hf; replace hf := hf_; clear hf_; have hk : tq = true := (tbo_t ht).symm.trans hk; replace hf := (if_t hk).symm.trans hf; obtain ⟨hf1, hf2⟩ := Prod.mk.inj (Option.some.inj hf); subst hf1; replace hf2 := Option.some.inj hf2; subst hf2; exact ee_wk (Γ1 := [some (.im (eHouse house)), some (.im (D.int room)), some (.im (D.tup ((words).map D.str))), some (.im (D.lst ((p304.2).map D.int))), some (dkI (eFL D.int) s305), some (.im (D.int x305)), none, some (.im (D.int c314))]) (ee_var 7 (pv 7)) ⟨rfl, ⟨rfl, ⟨rfl, ⟨rfl, ⟨rfl, ⟨rfl, trivial⟩⟩⟩⟩⟩⟩,
        ft := fun t314 c314 r hk hf => by
            obtain ⟨tq, ht, hf_⟩ := bsplit hf; replace hf := hf_; clear hf_; have hk : tq = true := (tbo_t ht).symm.trans hk; replace hf := (if_t hk).symm.trans hf; cases hf; exact ⟨_, rfl⟩,
        ff := fun t314 c314 r hk hf => by obtain ⟨tq, ht, hf_⟩ := bsplit hf; replace hf := hf_; clear hf_; have hk : tq = false := (tbo_t ht).symm.trans hk; replace hf := (if_f hk).symm.trans hf; cases hf; exact ⟨rfl, ⟨rfl, ⟨rfl, ⟨rfl, ⟨rfl, ⟨rfl, ⟨rfl, trivial⟩⟩⟩⟩⟩⟩⟩, br := fun _ => (bare_cons rfl bare_nil), fr := (freeJ_cons ⟨trivial, trivial⟩ freeJ_nil), fh := fun v => (freeJ_cons ⟨trivial, trivial⟩ freeJ_nil), pn := pnJ hpin (by decide), ln := (gd_d hp315) }
   hp320)) (gu_dkI (f := (eFL D.int)) (x := p320.2) (l := s305) 4 hr.units (pv 4) rfl (eq_var 5 (pv 5)) (gd_d hp321))) ?_
    replace hf305 := Option.some.inj hf305
    subst hf305
    exact sl_end ⟨rfl, ⟨rfl, ⟨rfl, ⟨rfl, ⟨rfl, trivial⟩⟩⟩⟩⟩
  obtain ⟨p323, hp323, h_⟩ := bsplit h; replace h := h_; clear h_
  obtain ⟨p324, hp324, h_⟩ := bsplit h; replace h := h_; clear h_
  obtain ⟨p325, hp325, h_⟩ := bsplit h; replace h := h_; clear h_
  replace h := Option.some.inj h
  subst h
  exact sl_exit (s_ret (Γ1 := [some (.im (eHouse house)), some (.im (D.int room)), some (.im (D.tup ((words).map D.str))), some (.im (D.lst ((p304.2).map D.int))), some (dkI (eFL D.int) (p325.2)), none, none, none]) (m := (.im (D.lst (((p325.1)).map (eTL D.int))))) (ee_callX (k := 1) (G_l_rings_of.mono (by decide)) hr hG g_l_rings_of kp_l_rings_of b_l_rings_of (ea_cons (ee_var 3 (pv 3)) (ea_cons (ee_tk 4 (pv 4)) (ea_cons (ee_lock (ee_listRg rfl g_list g_range (ee_lenTE (enc := eWay) g_len (ee_ixT (ee_var 0 (pv 0)) ee_int rfl)) (gd_d hp323) (gd_d hp324))) ea_nil))) ⟨p304.2, p322, (rng 0 (((house.2)).length : Int)), p325, hp325, rfl, rfl, rfl⟩) trivial) rfl
/-! ### law_chain -/
abbrev N_l_chain : List Str := ["door", "ring", "spot", "hand", "others", "table", "orders", "found", "ahead", "j"]
theorem sc_l_chain : FnScope N_l_chain ["door", "ring", "spot"] (defScope s_l_chain) := ⟨rfl, rfl, rfl, by decide +kernel, rfl, by decide +kernel, by decide +kernel⟩
def l_chain_m (door : tDoor) (ring : (List Int)) (spot : Int) : Option (List Ev) := (atI ring spot).bind fun p326 => (gd (decide ((ring).length + (ring).length ≤ sizeLine))).bind fun p327 => (atI (ring ++ ring) (spot + 1)).bind fun p328 => (gd (decide ((((srtI ring))).length ≤ sizeLine))).bind fun p330 => (lcM (fun (t329 : Unit) (c329 : Int) => (((atI (door.1) p326).bind fun p331 => (atI p331 c329).bind fun p332 => some (decide (p332 = ("even" : Str))))).bind fun tq => if tq = true then (some ((), some ((.hand, [p326, c329]) : Ev))) else some ((), none)) () ((srtI ring))).bind fun p333 => (gd (decide ((([((.raised, [p326]) : Ev)] : (List Ev))).length + (p333.2).length ≤ sizeLine))).bind fun p334 => (atI (door.2) p326).bind fun p335 => (atI (door.2) p326).bind fun p337 => (idxE p337 p328).bind fun p338 => (gd (decide ((((cutL p335 none (some p338)))).length ≤ sizeLine))).bind fun p340 => (lcM (fun (t339 : Unit) (c339 : Int) => some ((), if (decide (c339 ∈ ring)) = true then some ((.look, [p326, c339]) : Ev) else none)) () ((cutL p335 none (some p338)))).bind fun p341 => (gd (decide (((([((.raised, [p326]) : Ev)] : (List Ev)) ++ p333.2)).length + (p341.2).length ≤ sizeLine))).bind fun p342 => some ((([((.raised, [p326]) : Ev)] : (List Ev)) ++ p333.2) ++ p341.2)
abbrev l_chainR : List M → M → List M → Prop := fun ms r ms' => ∃ (door : tDoor) (ring : (List Int)) (spot : Int) (out : (List Ev)), l_chain_m door ring spot = some out ∧ ms = [(.im (eDoor door)), (.im (D.tup ((ring).map D.int))), (.im (D.int spot))] ∧ r = (.im (D.lst ((out).map eEv))) ∧ ms' = []
theorem l_chain_ok {P : Program} {w : World} {K : PySem.W.Frag} {mg : Str → Option Value} {base : Heap} {f : Addr} {fd : FuncData} (F : FnP K "_law_chain" s_l_chain f fd) (g_sorted : mg "sorted" = none) : FnG P w K mg base 1 f fd ["door", "ring", "spot"] (spR K 3 [] l_chainR) := by
  refine fn_body (k := 0) F sc_l_chain rfl (by decide) (by decide) (by decide) (by rintro ms r ms' ⟨door, ring, spot, out, _, rfl, _, rfl⟩; exact ⟨rfl, rfl⟩) ?_
  rintro cdv A outer s H E H0 io pin mio hpin hr hG ms r ms' ⟨door, ring, spot, out, h, rfl, rfl, rfl⟩
  refine ⟨[none, none, none, none, none, none, none, none, none, none], ?_, fun k i m h1 h2 => by simp at h1⟩
  unfold l_chain_m at h
  refine sl_in ?_
  obtain ⟨p326, hp326, h_⟩ := bsplit h; replace h := h_; clear h_
  obtain ⟨p327, hp327, h_⟩ := bsplit h; replace h := h_; clear h_
  obtain ⟨p328, hp328, h_⟩ := bsplit h; replace h := h_; clear h_
  refine sl_cons (Γ1 := [some (.im (eDoor door)), some (.im (D.tup ((ring).map D.int))), some (.im (D.int spot)), some (.im (D.int p326)), some (.im (D.int p328)), none, none, none, none, none]) (s_unp2 (Γ1 := [some (.im (eDoor door)), some (.im (D.tup ((ring).map D.int))), some (.im (D.int spot)), none, none, none, none, none, none, none]) (m1 := (.im (D.int p326))) (m2 := (.im (D.int p328))) 3 4 rfl sc_l_chain.nd rfl rfl (by decide) (by first | exact Or.inl rfl | exact Or.inr rfl) (by first | exact Or.inl rfl | exact Or.inr rfl) (np1 hpin (by decide)) (np1 hpin (by decide)) trivial trivial (ea_cons (ee_ixTE (enc := D.int) (ee_var 1 (pv 1)) (ee_var 2 (pv 2)) hp326) (ea_cons (ee_ixTE (enc := D.int) (ee_catTE (enc := D.int) (xs := ring) (ys := ring) (ee_var 1 (pv 1)) (ee_var 1 (pv 1)) (gd_d hp327)) (ee_add (ee_var 2 (pv 2)) ee_int) hp328) ea_nil))) ?_
  refine sl_cons (Γ1 := [some (.im (eDoor door)), some (.im (D.tup ((ring).map D.int))), some (.im (D.int spot)), some (.im (D.int p326)), some (.im (D.int p328)), some (.im (D.tup (((door.1)).map eRow))), some (.im (D.tup (((door.2)).map (eTL D.int)))), none, none, none]) (s_unp (Γ1 := [some (.im (eDoor door)), some (.im (D.tup ((ring).map D.int))), some (.im (D.int spot)), some (.im (D.int p326)), some (.im (D.int p328)), none, none, none, none, none]) (J := [5, 6]) (ee_var 0 (pv 0)) (gt_tup rfl (gts_cons (gt_name 5 sc_l_chain.nd rfl (by first | exact Or.inl rfl | exact Or.inr rfl) (np1 hpin (by decide)) trivial (by decide)) (gts_cons (gt_name 6 sc_l_chain.nd rfl (by first | exact Or.inl rfl | exact Or.inr rfl) (np1 hpin (by decide)) trivial (by decide)) gts_nil)))) ?_
  obtain ⟨p330, hp330, h_⟩ := bsplit h; replace h := h_; clear h_
  obtain ⟨p333, hp333, h_⟩ := bsplit h; replace h := h_; clear h_
  obtain ⟨p334, hp334, h_⟩ := bsplit h; replace h := h_; clear h_
  refine sl_cons (Γ1 := [some (.im (eDoor door)), some (.im (D.tup ((ring).map D.int))), some (.im (D.int spot)), some (.im (D.int p326)), some (.im (D.int p328)), some (.im (D.tup (((door.1)).map eRow))), some (.im (D.tup (((door.2)).map (eTL D.int)))), some (.li (((([((.raised, [p326]) : Ev)] : (List Ev)) ++ p333.2)).map eEv)), none, none]) (s_set (Γ1 := [some (.im (eDoor door)), some (.im (D.tup ((ring).map D.int))), some (.im (D.int spot)), some (.im (D.int p326)), some (.im (D.int p328)), some (.im (D.tup (((door.1)).map eRow))), some (.im (D.tup (((door.2)).map (eTL D.int)))), none, none, none]) (m := (.li (((([((.raised, [p326]) : Ev)] : (List Ev)) ++ p333.2)).map eEv))) 7 sc_l_chain.nd rfl (by first | exact Or.inl rfl | exact Or.inr rfl) (np1 hpin (by decide)) (ee_catE (enc := eEv) (ee_lst (ds := [(eEv ((.raised, [p326]) : Ev))]) (ea_cons (ee_to (d2 := eEv ((.raised, [p326]) : Ev)) (ee_tup (ds := [D.str "raise", D.int p326]) (ea_cons ee_str (ea_cons (ee_var 3 (pv 3)) ea_nil)) (show 2 ≤ 1000 by decide)) rfl) ea_nil) (show 1 ≤ 1000 by decide)) (ee_lc (s1 := p333.1) (ys := p333.2) (f := (fun (t329 : Unit) (c329 : Int) => (((atI (door.1) p326).bind fun p331 => (atI p331 c329).bind fun p332 => some (decide (p332 = ("even" : Str))))).bind fun tq => if tq = true then (some ((), some ((.hand, [p326, c329]) : Ev))) else some ((), none))) (enc := D.int) (eb := eEv) (xs := ((srtI ring))) (s0 := ()) (hx := (fun v => .hid (.li (((srtI ring)).map D.int)) v)) (cond := (fun _ => True)) (Γs := fun (t329 : Unit) => [some (.im (eDoor door)), some (.im (D.tup ((ring).map D.int))), some (.im (D.int spot)), some (.im (D.int p326)), some (.im (D.int p328)), some (.im (D.tup (((door.1)).map eRow))), some (.im (D.tup (((door.2)).map (eTL D.int)))), none, none, none]) (Γt := fun (t329 : Unit) (c329 : Int) => [some (.im (eDoor door)), some (.im (D.tup ((ring).map D.int))), some (.im (D.int spot)), some (.im (D.int p326)), some (.im (D.int p328)), some (.im (D.tup (((door.1)).map eRow))), some (.im (D.tup (((door.2)).map (eTL D.int)))), none, none, some (.im (D.int c329))]) (Γu := fun (t329 : Unit) (c329 : Int) => [some (.im (eDoor door)), some (.im (D.tup ((ring).map D.int))), some (.im (D.int spot)), some (.im (D.int p326)), some (.im (D.int p328)), some (.im (D.tup (((door.1)).map eRow))), some (.im (D.tup (((door.2)).map (eTL D.int)))), none, none, some (.im (D.int c329))]) (tb := (fun t329 c329 => tbo ((atI (door.1) p326).bind fun p331 => (atI p331 c329).bind fun p332 => some (decide (p332 = ("even" : Str)))))) rfl sc_l_chain.nd (blkOk_by (own := [("j", 9)]) (N := N_l_chain) (sc := defScope s_l_chain) (by decide +kernel))
   { fx := Fix.hid, it := it_wk (Γ1 := [some (.im (eDoor door)), some (.im (D.tup ((ring).map D.int))), some (.im (D.int spot)), some (.im (D.int p326)), some (.im (D.int p328)), some (.im (D.tup (((door.1)).map eRow))), some (.im (D.tup (((door.2)).map (eTL D.int)))), none, none, none]) (it_lstH (ee_sorted g_sorted (ee_var 1 (pv 1)) .t)) ⟨rfl, ⟨rfl, ⟨rfl, ⟨rfl, ⟨rfl, ⟨rfl, ⟨rfl, trivial⟩⟩⟩⟩⟩⟩⟩, cd := fun _ => trivial, gt := fun s H Ca cl fp v q acc t329 c329 => (gt_name 9 sc_l_chain.nd rfl (by first | exact Or.inl rfl | exact Or.inr rfl) (np1 hpin (by decide)) ⟨trivial, ⟨trivial, ⟨trivial, trivial⟩⟩⟩ (by decide)), tt := fun s H Ca cl fp v q acc t329 c329 ⟨rq, hrq⟩ => by
            obtain ⟨t, ht, hrq⟩ := bsplit hrq; have hz : tbo ((atI (door.1) p326).bind fun p331 => (atI p331 c329).bind fun p332 => some (decide (p332 = ("even" : Str)))) = t := tbo_t ht; obtain ⟨p331, hp331, ht_⟩ := bsplit ht; replace ht := ht_; clear ht_; obtain ⟨p332, hp332, ht_⟩ := bsplit ht; replace ht := ht_; clear ht_; replace ht := Option.some.inj ht; subst ht; rw [hz]; exact tests1 (et_eqS (ee_ixTE (enc := D.str) (ee_ixTE (enc := eRow) (ee_var 5 (pv 5)) (ee_var 3 (pv 3)) hp331) (ee_var 9 (pv 9)) hp332) ee_str),
        el := fun s H Ca cl fp v q acc t329 c329 st' y hk hf => by
            obtain ⟨tq, ht, hf_⟩ := bsplit hf; replace hf := hf_; clear hf_; have hk : tq = true := (tbo_t ht).symm.trans hk; replace hf := (if_t hk).symm.trans hf; obtain ⟨hf1, hf2⟩ := Prod.mk.inj (Option.some.inj hf); subst hf1; replace hf2 := Option.some.inj hf2; subst hf2; exact ee_wk (Γ1 := [some (.im (eDoor door)), some (.im (D.tup ((ring).map D.int))), some (.im (D.int spot)), some (.im (D.int p326)), some (.im (D.int p328)), some (.im (D.tup (((door.1)).map eRow))), some (.im (D.tup (((door.2)).map (eTL D.int)))), none, none, some (.im (D.int c329))]) (ee_to (d2 := eEv ((.hand, [p326, c329]) : Ev)) (ee_tup (ds := [D.str "hand", D.int p326, D.int c329]) (ea_cons ee_str (ea_cons (ee_var 3 (pv 3)) (ea_cons (ee_var 9 (pv 9)) ea_nil))) (show 3 ≤ 1000 by decide)) rfl) ⟨rfl, ⟨rfl, ⟨rfl, ⟨rfl, ⟨rfl, ⟨rfl, ⟨rfl, trivial⟩⟩⟩⟩⟩⟩⟩,
        ft := fun t329 c329 r hk hf => by
            obtain ⟨tq, ht, hf_⟩ := bsplit hf; replace hf := hf_; clear hf_; have hk : tq = true := (tbo_t ht).symm.trans hk; replace hf := (if_t hk).symm.trans hf; cases hf; exact ⟨_, rfl⟩,
        ff := fun t329 c329 r hk hf => by obtain ⟨tq, ht, hf_⟩ := bsplit hf; replace hf := hf_; clear hf_; have hk : tq = false := (tbo_t ht).symm.trans hk; replace hf := (if_f hk).symm.trans hf; cases hf; exact ⟨rfl, ⟨rfl, ⟨rfl, ⟨rfl, ⟨rfl, ⟨rfl, ⟨rfl, ⟨rfl, trivial⟩⟩⟩⟩⟩⟩⟩⟩, br := fun _ => (bare_cons rfl bare_nil), fr := (freeJ_cons ⟨trivial, trivial⟩ freeJ_nil), fh := fun v => (freeJ_cons ⟨trivial, trivial⟩ freeJ_nil), pn := pnJ hpin (by decide), ln := (gd_d hp330) }
   hp333) .own .own (gd_d hp334)) trivial) ?_
  obtain ⟨p335, hp335, h_⟩ := bsplit h; replace h := h_; clear h_
  obtain ⟨p337, hp337, h_⟩ := bsplit h; replace h := h_; clear h_
  obtain ⟨p338, hp338, h_⟩ := bsplit h; replace h := h_; clear h_
  refine sl_cons (Γ1 := [some (.im (eDoor door)), some (.im (D.tup ((ring).map D.int))), some (.im (D.int spot)), some (.im (D.int p326)), some (.im (D.int p328)), some (.im (D.tup (((door.1)).map eRow))), some (.im (D.tup (((door.2)).map (eTL D.int)))), some (.li (((([((.raised, [p326]) : Ev)] : (List Ev)) ++ p333.2)).map eEv)), some (.im (D.tup (((cutL p335 none (some p338))).map D.int))), none]) (s_set (Γ1 := [some (.im (eDoor door)), some (.im (D.tup ((ring).map D.int))), some (.im (D.int spot)), some (.im (D.int p326)), some (.im (D.int p328)), some (.im (D.tup (((door.1)).map eRow))), some (.im (D.tup (((door.2)).map (eTL D.int)))), some (.li (((([((.raised, [p326]) : Ev)] : (List Ev)) ++ p333.2)).map eEv)), none, none]) (m := (.im (D.tup (((cutL p335 none (some p338))).map D.int)))) 8 sc_l_chain.nd rfl (by first | exact Or.inl rfl | exact Or.inr rfl) (np1 hpin (by decide)) (ee_slTE (enc := D.int) (ee_ixTE (enc := (eTL D.int)) (ee_var 6 (pv 6)) (ee_var 3 (pv 3)) hp335) ep_none (ep_some (ee_idxT (f := D.int) (xs := p337) (x := p328) (k := 5) hr.units eqt_int (by decide) (ee_ixTE (enc := (eTL D.int)) (ee_var 6 (pv 6)) (ee_var 3 (pv 3)) hp337) (ee_var 4 (pv 4)) hp338))) trivial) ?_
  obtain ⟨p340, hp340, h_⟩ := bsplit h; replace h := h_; clear h_
  obtain ⟨p341, hp341, h_⟩ := bsplit h; replace h := h_; clear h_
  obtain ⟨p342, hp342, h_⟩ := bsplit h; replace h := h_; clear h_
  replace h := Option.some.inj h
  subst h
  exact sl_exit (s_ret (Γ1 := [some (.im (eDoor door)), some (.im (D.tup ((ring).map D.int))), some (.im (D.int spot)), some (.im (D.int p326)), some (.im (D.int p328)), some (.im (D.tup (((door.1)).map eRow))), some (.im (D.tup (((door.2)).map (eTL D.int)))), some (.li (((([((.raised, [p326]) : Ev)] : (List Ev)) ++ p333.2)).map eEv)), some (.im (D.tup (((cutL p335 none (some p338))).map D.int))), none]) (m := (.im (D.lst ((((([((.raised, [p326]) : Ev)] : (List Ev)) ++ p333.2) ++ p341.2)).map eEv)))) (ee_lock (ee_catE (enc := eEv) (ee_al 7 (pv 7)) (ee_lc (s1 := p341.1) (ys := p341.2) (f := (fun (t339 : Unit) (c339 : Int) => some ((), if (decide (c339 ∈ ring)) = true then some ((.look, [p326, c339]) : Ev) else none))) (enc := D.int) (eb := eEv) (xs := ((cutL p335 none (some p338)))) (s0 := ()) (hx := (fun v => .hid (.im (.tup (((cutL p335 none (some p338))).map D.int))) v)) (cond := (fun _ => True)) (Γs := fun (t339 : Unit) => [some (.im (eDoor door)), some (.im (D.tup ((ring).map D.int))), some (.im (D.int spot)), some (.im (D.int p326)), some (.im (D.int p328)), some (.im (D.tup (((door.1)).map eRow))), some (.im (D.tup (((door.2)).map (eTL D.int)))), some (.li (((([((.raised, [p326]) : Ev)] : (List Ev)) ++ p333.2)).map eEv)), some (.im (D.tup (((cutL p335 none (some p338))).map D.int))), none]) (Γt := fun (t339 : Unit) (c339 : Int) => [some (.im (eDoor door)), some (.im (D.tup ((ring).map D.int))), some (.im (D.int spot)), some (.im (D.int p326)), some (.im (D.int p328)), some (.im (D.tup (((door.1)).map eRow))), some (.im (D.tup (((door.2)).map (eTL D.int)))), some (.li (((([((.raised, [p326]) : Ev)] : (List Ev)) ++ p333.2)).map eEv)), some (.im (D.tup (((cutL p335 none (some p338))).map D.int))), some (.im (D.int c339))]) (Γu := fun (t339 : Unit) (c339 : Int) => [some (.im (eDoor door)), some (.im (D.tup ((ring).map D.int))), some (.im (D.int spot)), some (.im (D.int p326)), some (.im (D.int p328)), some (.im (D.tup (((door.1)).map eRow))), some (.im (D.tup (((door.2)).map (eTL D.int)))), some (.li (((([((.raised, [p326]) : Ev)] : (List Ev)) ++ p333.2)).map eEv)), some (.im (D.tup (((cutL p335 none (some p338))).map D.int))), some (.im (D.int c339))]) (tb := (fun t339 c339 => (decide (c339 ∈ ring)))) rfl sc_l_chain.nd (blkOk_by (own := [("j", 9)]) (N := N_l_chain) (sc := defScope s_l_chain) (by decide +kernel))
   { fx := Fix.hid, it := it_wk (Γ1 := [some (.im (eDoor door)), some (.im (D.tup ((ring).map D.int))), some (.im (D.int spot)), some (.im (D.int p326)), some (.im (D.int p328)), some (.im (D.tup (((door.1)).map eRow))), some (.im (D.tup (((door.2)).map (eTL D.int)))), some (.li (((([((.raised, [p326]) : Ev)] : (List Ev)) ++ p333.2)).map eEv)), some (.im (D.tup (((cutL p335 none (some p338))).map D.int))), none]) (it_tup (ee_var 8 (pv 8))) ⟨rfl, ⟨rfl, ⟨rfl, ⟨rfl, ⟨rfl, ⟨rfl, ⟨rfl, ⟨rfl, ⟨rfl, trivial⟩⟩⟩⟩⟩⟩⟩⟩⟩, cd := fun _ => trivial, gt := fun s H Ca cl fp v q acc t339 c339 => (gt_name 9 sc_l_chain.nd rfl (by first | exact Or.inl rfl | exact Or.inr rfl) (np1 hpin (by decide)) ⟨(show (7 : Nat) ≠ 9 by decide), ⟨trivial, ⟨trivial, trivial⟩⟩⟩ (by decide)), tt := fun s H Ca cl fp v q acc t339 c339 _ => tests1 (et_inI (ee_var 9 (pv 9)) (ee_var 1 (pv 1)) .t),
        el := fun s H Ca cl fp v q acc t339 c339 st' y hk hf => by
            rw [if_t hk] at hf; obtain ⟨hf1, hf2⟩ := Prod.mk.inj (Option.some.inj hf); subst hf1; replace hf2 := Option.some.inj hf2; subst hf2; exact ee_wk (Γ1 := [some (.im (eDoor door)), some (.im (D.tup ((ring).map D.int))), some (.im (D.int spot)), some (.im (D.int p326)), some (.im (D.int p328)), some (.im (D.tup (((door.1)).map eRow))), some (.im (D.tup (((door.2)).map (eTL D.int)))), some (.li (((([((.raised, [p326]) : Ev)] : (List Ev)) ++ p333.2)).map eEv)), some (.im (D.tup (((cutL p335 none (some p338))).map D.int))), some (.im (D.int c339))]) (ee_to (d2 := eEv ((.look, [p326, c339]) : Ev)) (ee_tup (ds := [D.str "look", D.int p326, D.int c339]) (ea_cons ee_str (ea_cons (ee_var 3 (pv 3)) (ea_cons (ee_var 9 (pv 9)) ea_nil))) (show 3 ≤ 1000 by decide)) rfl) ⟨rfl, ⟨rfl, ⟨rfl, ⟨rfl, ⟨rfl, ⟨rfl, ⟨rfl, ⟨rfl, ⟨rfl, trivial⟩⟩⟩⟩⟩⟩⟩⟩⟩,
        ft := fun t339 c339 r hk hf => by cases hf; exact ⟨_, if_t hk⟩,
        ff := fun t339 c339 r hk hf => by cases hf; exact ⟨if_f hk, ⟨rfl, ⟨rfl, ⟨rfl, ⟨rfl, ⟨rfl, ⟨rfl, ⟨rfl, ⟨rfl, ⟨rfl, trivial⟩⟩⟩⟩⟩⟩⟩⟩⟩⟩, br := fun _ => (bare_cons rfl bare_nil), fr := (freeJ_cons ⟨(show (7 : Nat) ≠ 9 by decide), trivial⟩ freeJ_nil), fh := fun v => (freeJ_cons ⟨trivial, trivial⟩ freeJ_nil), pn := pnJ hpin (by decide), ln := (gd_d hp340) }
   hp341) (.al rfl) .own (gd_d hp342))) trivial) rfl
/-! ### law_chains -/
abbrev N_l_chains : List Str := ["door", "ring", "spot"]
theorem sc_l_chains : FnScope N_l_chains ["door", "ring"] (defScope s_l_chains) := ⟨rfl, rfl, rfl, by decide +kernel, rfl, by decide +kernel, by decide +kernel⟩
def l_chains_m (door : tDoor) (ring : (List Int)) : Option (List (List Ev)) := (gd (decide (-(2 ^ 62) ≤ ((ring).length : Int)))).bind fun p344 => (gd (decide (((ring).length : Int) < 2 ^ 62))).bind fun p345 => (gd (decide (((rng 0 ((ring).length : Int))).length ≤ sizeLine))).bind fun p346 => (lcM (fun (t343 : Unit) (c343 : Int) => (l_chain_m door ring c343).bind fun p347 => some ((), some p347)) () (rng 0 ((ring).length : Int))).bind fun p348 => some p348.2
abbrev l_chainsR : List M → M → List M → Prop := fun ms r ms' => ∃ (door : tDoor) (ring : (List Int)) (out : (List (List Ev))), l_chains_m door ring = some out ∧ ms = [(.im (eDoor door)), (.im (D.tup ((ring).map D.int)))] ∧ r = (.im (D.lst ((out).map (eFL eEv)))) ∧ ms' = []
theorem l_chains_ok {P : Program} {w : World} {K : PySem.W.Frag} {mg : Str → Option Value} {base : Heap} {f : Addr} {fd : FuncData} (F : FnP K "_law_chains" s_l_chains f fd) {f_l_chain : Addr} {fd_l_chain : FuncData} (G_l_chain : FnG P w K mg base 1 f_l_chain fd_l_chain ["door", "ring", "spot"] (spR K 3 [] l_chainR)) (F_l_chain : FnP K "_law_chain" s_l_chain f_l_chain fd_l_chain) (g_l_chain : mg "_law_chain" = some (.ref f_l_chain)) (g_len : mg "len" = none) (g_range : mg "range" = none) : FnG P w K mg base 2 f fd ["door", "ring"] (spR K 2 [] l_chainsR) := by
  refine fn_body (k := 1) F sc_l_chains rfl (by decide) (by decide) (by decide) (by rintro ms r ms' ⟨door, ring, out, _, rfl, _, rfl⟩; exact ⟨rfl, rfl⟩) ?_
  rintro cdv A outer s H E H0 io pin mio hpin hr hG ms r ms' ⟨door, ring, out, h, rfl, rfl, rfl⟩
  refine ⟨[none, none, none], ?_, fun k i m h1 h2 => by simp at h1⟩
  unfold l_chains_m at h
  refine sl_in ?_
  have kp_l_chain := F_l_chain.kp
  have b_l_chain : Binds K fd_l_chain ["door", "ring", "spot"] [] := F_l_chain.bindsN fun _ _ _ _ _ _ us hl => match us, hl with | [_, _, _], _ => rfl
  obtain ⟨p344, hp344, h_⟩ := bsplit h; replace h := h_; clear h_
  obtain ⟨p345, hp345, h_⟩ := bsplit h; replace h := h_; clear h_
  obtain ⟨p346, hp346, h_⟩ := bsplit h; replace h := h_; clear h_
  obtain ⟨p348, hp348, h_⟩ := bsplit h; replace h := h_; clear h_
  replace h := Option.some.inj h
  subst h
  exact sl_exit (s_ret (Γ1 := [some (.im (eDoor door)), some (.im (D.tup ((ring).map D.int))), none]) (m := (.im (D.lst ((p348.2).map (eFL eEv))))) (ee_lock (ee_lc (s1 := p348.1) (ys := p348.2) (f := (fun (t343 : Unit) (c343 : Int) => (l_chain_m door ring c343).bind fun p347 => some ((), some p347))) (enc := D.int) (eb := (eFL eEv)) (xs := (rng 0 ((ring).length : Int))) (s0 := ()) (hx := (fun v => .hid (.im .non) v)) (cond := (fun _ => True)) (Γs := fun (t343 : Unit) => [some (.im (eDoor door)), some (.im (D.tup ((ring).map D.int))), none]) (Γt := fun (t343 : Unit) (c343 : Int) => [some (.im (eDoor door)), some (.im (D.tup ((ring).map D.int))), some (.im (D.int c343))]) (Γu := fun (t343 : Unit) (c343 : Int) => [some (.im (eDoor door)), some (.im (D.tup ((ring).map D.int))), some (.im (D.int c343))]) (tb := (fun _ _ => true)) rfl sc_l_chains.nd (blkOk_by (own := [("spot", 2)]) (N := N_l_chains) (sc := defScope s_l_chains) (by decide +kernel))
   { fx := Fix.hid, it := it_wk (Γ1 := [some (.im (eDoor door)), some (.im (D.tup ((ring).map D.int))), none]) (it_rng1 g_range (ee_lenTE (enc := D.int) g_len (ee_var 1 (pv 1))) (gd_d hp344) (gd_d hp345)) ⟨rfl, ⟨rfl, trivial⟩⟩, cd := fun _ => trivial, gt := fun s H Ca cl fp v q acc t343 c343 => (gt_name 2 sc_l_chains.nd rfl (by first | exact Or.inl rfl | exact Or.inr rfl) (np1 hpin (by decide)) ⟨trivial, ⟨trivial, trivial⟩⟩ (by decide)), tt := fun s H Ca cl fp v q acc t343 c343 _ => tests0,
        el := fun s H Ca cl fp v q acc t343 c343 st' y hk hf => by
            obtain ⟨p347, hp347, hf_⟩ := bsplit hf; replace hf := hf_; clear hf_; obtain ⟨hf1, hf2⟩ := Prod.mk.inj (Option.some.inj hf); subst hf1; replace hf2 := Option.some.inj hf2; subst hf2; exact ee_wk (Γ1 := [some (.im (eDoor door)), some (.im (D.tup ((ring).map D.int))), some (.im (D.int c343))]) (ee_callX (k := 1) (G_l_chain.mono (by decide)) hr hG g_l_chain kp_l_chain b_l_chain (ea_cons (ee_var 0 (pv 0)) (ea_cons (ee_var 1 (pv 1)) (ea_cons (ee_var 2 (pv 2)) ea_nil))) ⟨door, ring, c343, p347, hp347, rfl, rfl, rfl⟩) ⟨rfl, ⟨rfl, trivial⟩⟩,
        ft := fun t343 c343 r hk hf => by
            obtain ⟨p347, hp347, hf_⟩ := bsplit hf; replace hf := hf_; clear hf_; cases hf; exact ⟨_, rfl⟩,
        ff := fun t343 c343 r hk hf => Bool.noConfusion hk, br := fun _ => (bare_cons rfl bare_nil), fr := (freeJ_cons trivial freeJ_nil), fh := fun v => (freeJ_cons ⟨trivial, trivial⟩ freeJ_nil), pn := pnJ hpin (by decide), ln := (gd_d hp346) }
   hp348)) trivial) rfl
/-! ### law_told_events -/
abbrev N_l_told_events : List Str := ["door", "ring", "found", "chain"]
theorem sc_l_told_events : FnScope N_l_told_events ["door", "ring"] (defScope s_l_told_events) := ⟨rfl, rfl, rfl, by decide +kernel, rfl, by decide +kernel, by decide +kernel⟩
def l_told_events_L1  (s : (List Ev)) (x : (List Ev)) : Option (List Ev) := (gd (decide ((s).length + (x).length ≤ sizeLine))).bind fun p351 => some (s ++ x)
def l_told_events_m (door : tDoor) (ring : (List Int)) : Option (List Ev) := (l_chains_m door ring).bind fun p349 => (forS l_told_events_L1 ([] : (List Ev)) (p349)).bind fun p353 => some (srtE eEv p353)
abbrev l_told_eventsR : List M → M → List M → Prop := fun ms r ms' => ∃ (door : tDoor) (ring : (List Int)) (out : (List Ev)), l_told_events_m door ring = some out ∧ ms = [(.im (eDoor door)), (.im (D.tup ((ring).map D.int)))] ∧ r = (.im (D.lst ((out).map eEv))) ∧ ms' = []
theorem l_told_events_ok {P : Program} {w : World} {K : PySem.W.Frag} {mg : Str → Option Value} {base : Heap} {f : Addr} {fd : FuncData} (F : FnP K "_law_told_events" s_l_told_events f fd) {f_l_chains : Addr} {fd_l_chains : FuncData} (G_l_chains : FnG P w K mg base 2 f_l_chains fd_l_chains ["door", "ring"] (spR K 2 [] l_chainsR)) (F_l_chains : FnP K "_law_chains" s_l_chains f_l_chains fd_l_chains) (g_l_chains : mg "_law_chains" = some (.ref f_l_chains)) (g_sorted : mg "sorted" = none) : FnG P w K mg base 3 f fd ["door", "ring"] (spR K 2 [] l_told_eventsR) := by
  refine fn_body (k := 2) F sc_l_told_events rfl (by decide) (by decide) (by decide) (by rintro ms r ms' ⟨door, ring, out, _, rfl, _, rfl⟩; exact ⟨rfl, rfl⟩) ?_
  rintro cdv A outer s H E H0 io pin mio hpin hr hG ms r ms' ⟨door, ring, out, h, rfl, rfl, rfl⟩
  refine ⟨[none, none, none, none], ?_, fun k i m h1 h2 => by simp at h1⟩
  unfold l_told_events_m at h
  refine sl_in ?_
  have kp_l_chains := F_l_chains.kp
  have b_l_chains : Binds K fd_l_chains ["door", "ring"] [] := F_l_chains.bindsN fun _ _ _ _ _ _ us hl => match us, hl with | [_, _], _ => rfl
  refine sl_cons (Γ1 := [some (.im (eDoor door)), some (.im (D.tup ((ring).map D.int))), some (.li ((([] : (List Ev))).map eEv)), none]) (s_set (Γ1 := [some (.im (eDoor door)), some (.im (D.tup ((ring).map D.int))), none, none]) (m := (.li ((([] : (List Ev))).map eEv))) 2 sc_l_told_events.nd rfl (by first | exact Or.inl rfl | exact Or.inr rfl) (np1 hpin (by decide)) (ee_lst (ds := []) ea_nil (show 0 ≤ 1000 by decide)) trivial) ?_
  obtain ⟨p349, hp349, h_⟩ := bsplit h; replace h := h_; clear h_
  obtain ⟨p353, hp353, h_⟩ := bsplit h; replace h := h_; clear h_
  refine sl_cons (Γ1 := [some (.im (eDoor door)), some (.im (D.tup ((ring).map D.int))), some (.li ((p353).map eEv)), none]) (s_for (J := [3]) (enc := (eFL eEv)) (xs := (p349)) (hx := (fun v => .hid (.im (.lst ((p349).map (eFL eEv)))) v)) (cond := (fun _ => True)) (f := l_told_events_L1) (s0 := ([] : (List Ev))) (Γs := fun (s350 : (List Ev)) => [some (.im (eDoor door)), some (.im (D.tup ((ring).map D.int))), some (.li ((s350).map eEv)), none]) (Γt := fun (s350 : (List Ev)) (x350 : (List Ev)) => [some (.im (eDoor door)), some (.im (D.tup ((ring).map D.int))), some (.li ((s350).map eEv)), some (.im (D.lst ((x350).map eEv)))]) rfl Fix.hid (it_wk (Γ1 := [some (.im (eDoor door)), some (.im (D.tup ((ring).map D.int))), some (.li ((([] : (List Ev))).map eEv)), none]) (it_lstF (ee_callX (k := 2) (G_l_chains.mono (by decide)) hr hG g_l_chains kp_l_chains b_l_chains (ea_cons (ee_var 0 (pv 0)) (ea_cons (ee_var 1 (pv 1)) ea_nil)) ⟨door, ring, p349, hp349, rfl, rfl, rfl⟩)) ⟨rfl, ⟨rfl, ⟨rfl, trivial⟩⟩⟩) (fun _ => trivial) ?_ ?_ hp353) ?_
  · intro v350 s350 x350
    exact (gt_name 3 sc_l_told_events.nd rfl (by first | exact Or.inl rfl | exact Or.inr rfl) (np1 hpin (by decide)) ⟨trivial, trivial⟩ (by decide))
  · intro v350 s350 x350 s_350 hf350
    unfold l_told_events_L1 at hf350
    refine sl_in ?_
    obtain ⟨p352, hp352, hf350_⟩ := bsplit hf350; replace hf350 := hf350_; clear hf350_
    refine sl_cons (Γ1 := [some (.im (eDoor door)), some (.im (D.tup ((ring).map D.int))), some (.li (((s350 ++ x350)).map eEv)), some (.im (D.lst ((x350).map eEv)))]) (s_set (Γ1 := [some (.im (eDoor door)), some (.im (D.tup ((ring).map D.int))), some (.li ((s350).map eEv)), some (.im (D.lst ((x350).map eEv)))]) (m := (.li (((s350 ++ x350)).map eEv))) 2 sc_l_told_events.nd rfl (by first | exact Or.inl rfl | exact Or.inr rfl) (np1 hpin (by decide)) (ee_catQE (enc := eEv) (ee_al 2 (pv 2)) (ee_var 3 (pv 3)) (.al rfl) .fz (gd_d hp352)) ⟨trivial, trivial⟩) ?_
    replace hf350 := Option.some.inj hf350
    subst hf350
    exact sl_end ⟨rfl, ⟨rfl, ⟨rfl, trivial⟩⟩⟩
  replace h := Option.some.inj h
  subst h
  exact sl_exit (s_ret (Γ1 := [some (.im (eDoor door)), some (.im (D.tup ((ring).map D.int))), some (.li ((p353).map eEv)), none]) (m := (.im (D.lst (((srtE eEv p353)).map eEv)))) (ee_lock (ee_sortedE (f := eEv) (k := 5) hr.units g_sorted eqt_ev (by decide) al_ev (so_ev _) (ee_al 2 (pv 2)) (.l (.al rfl)))) trivial) rfl
/-! ### law_waiting -/
abbrev N_l_waiting : List Str := ["pot", "many", "rooms", "words", "some", "house", "room", "lot", "ways", "way"]
theorem sc_l_waiting : FnScope N_l_waiting ["pot", "many", "rooms"] (defScope s_l_waiting) := ⟨rfl, rfl, rfl, by decide +kernel, rfl, by decide +kernel, by decide +kernel⟩
def l_waiting_m (pot : Pot) (many : Int) (rooms : Int) : Option ((tHouse × Int) × Pot) := (pickP_m pot ([([(("even" : Str), ("even" : Str)), (("stand" : Str), ("stand" : Str)), (("even" : Str), ("even" : Str)), (("stand" : Str), ("bow" : Str))] : (List tPair)), (cutL ([(("even" : Str), ("even" : Str)), (("stand" : Str), ("stand" : Str)), (("even" : Str), ("even" : Str)), (("stand" : Str), ("bow" : Str))] : (List tPair)) none (some 2)), (cutL ([(("even" : Str), ("even" : Str)), (("stand" : Str), ("stand" : Str)), (("even" : Str), ("even" : Str)), (("stand" : Str), ("bow" : Str))] : (List tPair)) none (some 1)), (cutL ([(("even" : Str), ("even" : Str)), (("stand" : Str), ("stand" : Str)), (("even" : Str), ("even" : Str)), (("stand" : Str), ("bow" : Str))] : (List tPair)) (some 1) (some 2)), (cutL ([(("even" : Str), ("even" : Str)), (("stand" : Str), ("stand" : Str)), (("even" : Str), ("even" : Str)), (("stand" : Str), ("bow" : Str))] : (List tPair)) (some 1) none)] : (List (List tPair)))).bind fun p354 => (l_house_m p354.2 many rooms 4 5).bind fun p355 => (drawP_m (p355.2) rooms).bind fun p356 => (l_door_m (p356.2) many p354.1).bind fun p358 => (gd (decide (((cutL ((p355.1).1) none (some (p356.1)))).length + (([(some (p358.1))] : (List (Option tDoor)))).length ≤ sizeLine))).bind fun p359 => (gd (decide ((((cutL ((p355.1).1) none (some (p356.1))) ++ ([(some (p358.1))] : (List (Option tDoor))))).length + ((cutL ((p355.1).1) (some ((p356.1) + 1)) none)).length ≤ sizeLine))).bind fun p360 => (gd (decide (((((p355.1).2))).length ≤ sizeLine))).bind fun p362 => (lcM (fun (t361 : Pot) (c361 : tWay) => (drawP_m t361 8).bind fun p363 => some ((p363.2), some (if (decide (0 < (p363.1))) = true then ([(((("in" : Str), (p356.1)), (("out" : Str), (p356.1))).1), (((("in" : Str), (p356.1)), (("out" : Str), (p356.1))).2)] : tWay) else c361))) (p358.2) (((p355.1).2))).bind fun p366 => some ((((((cutL ((p355.1).1) none (some (p356.1))) ++ ([(some (p358.1))] : (List (Option tDoor)))) ++ (cutL ((p355.1).1) (some ((p356.1) + 1)) none)), p366.2), (p356.1)), (p366.1))
abbrev l_waitingR : List M → M → List M → Prop := fun ms r ms' => ∃ (pot : Pot) (many : Int) (rooms : Int) (out : ((tHouse × Int) × Pot)), l_waiting_m pot many rooms = some out ∧ ms = [(Pot.m nmPot pot), (.im (D.int many)), (.im (D.int rooms))] ∧ r = (.im ((eT2 eHouse D.int) (out.1))) ∧ ms' = [(Pot.m nmPot (out.2))]
theorem l_waiting_ok {P : Program} {w : World} {K : PySem.W.Frag} {mg : Str → Option Value} {base : Heap} {f : Addr} {fd : FuncData} (F : FnP K "_law_waiting" s_l_waiting f fd) {f_l_draw : Addr} {fd_l_draw : FuncData} (G_l_draw : FnG P w K mg base 1 f_l_draw fd_l_draw ["pot", "many"] (spR K 2 [0] drawPR)) (F_l_draw : FnP K "_law_draw" s_l_draw f_l_draw fd_l_draw) (g_l_draw : mg "_law_draw" = some (.ref f_l_draw)) {f_l_pick : Addr} {fd_l_pick : FuncData} (G_l_pick : FnG P w K mg base 2 f_l_pick fd_l_pick ["pot", "items"] (spR K 2 [0] pickPR)) (F_l_pick : FnP K "_law_pick" s_l_pick f_l_pick fd_l_pick) (g_l_pick : mg "_law_pick" = some (.ref f_l_pick)) {f_l_door : Addr} {fd_l_door : FuncData} (G_l_door : FnG P w K mg base 3 f_l_door fd_l_door ["pot", "many", "words"] (spR K 3 [0] l_doorR)) (F_l_door : FnP K "_law_door" s_l_door f_l_door fd_l_door) (g_l_door : mg "_law_door" = some (.ref f_l_door)) {f_l_house : Addr} {fd_l_house : FuncData} (G_l_house : FnG P w K mg base 4 f_l_house fd_l_house ["pot", "many", "rooms", "size", "doors"] (spR K 5 [0] l_houseR)) (F_l_house : FnP K "_law_house" s_l_house f_l_house fd_l_house) (g_l_house : mg "_law_house" = some (.ref f_l_house)) (g_tuple : mg "tuple" = none) : FnG P w K mg base 5 f fd ["pot", "many", "rooms"] (spR K 3 [0] l_waitingR) := by
  refine fn_body (k := 4) F sc_l_waiting rfl (by decide) (by decide) (by decide) (by rintro ms r ms' ⟨pot, many, rooms, out, _, rfl, _, rfl⟩; exact ⟨rfl, rfl⟩) ?_
  rintro cdv A outer s H E H0 io pin mio hpin hr hG ms r ms' ⟨pot, many, rooms, out, h, rfl, rfl, rfl⟩
  refine ⟨[some (Pot.m nmPot (out.2)), none, none, none, none, none, none, none, none, none], ?_, fun k i m h1 h2 => match k, h1, h2 with | 0, h1, h2 => by cases h1; cases h2; rfl⟩
  unfold l_waiting_m at h
  refine sl_in ?_
  have kp_l_draw := F_l_draw.kp
  have b_l_draw : Binds K fd_l_draw ["pot", "many"] [] := F_l_draw.bindsN fun _ _ _ _ _ _ us hl => match us, hl with | [_, _], _ => rfl
  have kp_l_pick := F_l_pick.kp
  have b_l_pick : Binds K fd_l_pick ["pot", "items"] [] := F_l_pick.bindsN fun _ _ _ _ _ _ us hl => match us, hl with | [_, _], _ => rfl
  have kp_l_door := F_l_door.kp
  have b_l_door : Binds K fd_l_door ["pot", "many", "words"] [] := F_l_door.bindsN fun _ _ _ _ _ _ us hl => match us, hl with | [_, _, _], _ => rfl
  have kp_l_house := F_l_house.kp
  have b_l_house : Binds K fd_l_house ["pot", "many", "rooms", "size", "doors"] [] := F_l_house.bindsN fun _ _ _ _ _ _ us hl => match us, hl with | [_, _, _, _, _], _ => rfl
  refine sl_cons (Γ1 := [some (Pot.m nmPot pot), some (.im (D.int many)), some (.im (D.int rooms)), some (.im (D.lst ((([(("even" : Str), ("even" : Str)), (("stand" : Str), ("stand" : Str)), (("even" : Str), ("even" : Str)), (("stand" : Str), ("bow" : Str))] : (List tPair))).map ePair))), none, none, none, none, none, none]) (s_set (Γ1 := [some (Pot.m nmPot pot), some (.im (D.int many)), some (.im (D.int rooms)), none, none, none, none, none, none, none]) (m := (.im (D.lst ((([(("even" : Str), ("even" : Str)), (("stand" : Str), ("stand" : Str)), (("even" : Str), ("even" : Str)), (("stand" : Str), ("bow" : Str))] : (List tPair))).map ePair)))) 3 sc_l_waiting.nd rfl (by first | exact Or.inl rfl | exact Or.inr rfl) (np1 hpin (by decide)) (ee_lock (ee_lst (ds := List.map ePair ([(("even" : Str), ("even" : Str)), (("stand" : Str), ("stand" : Str)), (("even" : Str), ("even" : Str)), (("stand" : Str), ("bow" : Str))] : (List tPair))) (ea_cons (ee_tup (ds := [(D.str ("even" : Str)), (D.str ("even" : Str))]) (ea_cons ee_str (ea_cons ee_str ea_nil)) (show 2 ≤ 1000 by decide)) (ea_cons (ee_tup (ds := [(D.str ("stand" : Str)), (D.str ("stand" : Str))]) (ea_cons ee_str (ea_cons ee_str ea_nil)) (show 2 ≤ 1000 by decide)) (ea_cons (ee_tup (ds := [(D.str ("even" : Str)), (D.str ("even" : Str))]) (ea_cons ee_str (ea_cons ee_str ea_nil)) (show 2 ≤ 1000 by decide)) (ea_cons (ee_tup (ds := [(D.str ("stand" : Str)), (D.str ("bow" : Str))]) (ea_cons ee_str (ea_cons ee_str ea_nil)) (show 2 ≤ 1000 by decide)) ea_nil)))) (show 4 ≤ 1000 by decide))) trivial) ?_
  obtain ⟨p354, hp354, h_⟩ := bsplit h; replace h := h_; clear h_
  refine sl_cons (Γ1 := [some (Pot.m nmPot p354.2), some (.im (D.int many)), some (.im (D.int rooms)), some (.im (D.lst ((([(("even" : Str), ("even" : Str)), (("stand" : Str), ("stand" : Str)), (("even" : Str), ("even" : Str)), (("stand" : Str), ("bow" : Str))] : (List tPair))).map ePair))), some (.im (D.lst ((p354.1).map ePair))), none, none, none, none, none]) (s_set (Γ1 := [some (Pot.m nmPot p354.2), some (.im (D.int many)), some (.im (D.int rooms)), some (.im (D.lst ((([(("even" : Str), ("even" : Str)), (("stand" : Str), ("stand" : Str)), (("even" : Str), ("even" : Str)), (("stand" : Str), ("bow" : Str))] : (List tPair))).map ePair))), none, none, none, none, none, none]) (m := (.im (D.lst ((p354.1).map ePair)))) 4 sc_l_waiting.nd rfl (by first | exact Or.inl rfl | exact Or.inr rfl) (np1 hpin (by decide)) (ee_callX (k := 4) (G_l_pick.mono (by decide)) hr hG g_l_pick kp_l_pick b_l_pick (ea_cons (ee_tk 0 (pv 0)) (ea_cons (ee_lock (ee_lst (ds := List.map (eFL ePair) ([([(("even" : Str), ("even" : Str)), (("stand" : Str), ("stand" : Str)), (("even" : Str), ("even" : Str)), (("stand" : Str), ("bow" : Str))] : (List tPair)), (cutL ([(("even" : Str), ("even" : Str)), (("stand" : Str), ("stand" : Str)), (("even" : Str), ("even" : Str)), (("stand" : Str), ("bow" : Str))] : (List tPair)) none (some 2)), (cutL ([(("even" : Str), ("even" : Str)), (("stand" : Str), ("stand" : Str)), (("even" : Str), ("even" : Str)), (("stand" : Str), ("bow" : Str))] : (List tPair)) none (some 1)), (cutL ([(("even" : Str), ("even" : Str)), (("stand" : Str), ("stand" : Str)), (("even" : Str), ("even" : Str)), (("stand" : Str), ("bow" : Str))] : (List tPair)) (some 1) (some 2)), (cutL ([(("even" : Str), ("even" : Str)), (("stand" : Str), ("stand" : Str)), (("even" : Str), ("even" : Str)), (("stand" : Str), ("bow" : Str))] : (List tPair)) (some 1) none)] : (List (List tPair)))) (ea_cons (ee_var 3 (pv 3)) (ea_cons (ee_lock (ee_slLE (enc := ePair) (ee_var 3 (pv 3)) ep_none (ep_some ee_int) .fz)) (ea_cons (ee_lock (ee_slLE (enc := ePair) (ee_var 3 (pv 3)) ep_none (ep_some ee_int) .fz)) (ea_cons (ee_lock (ee_slLE (enc := ePair) (ee_var 3 (pv 3)) (ep_some ee_int) (ep_some ee_int) .fz)) (ea_cons (ee_lock (ee_slLE (enc := ePair) (ee_var 3 (pv 3)) (ep_some ee_int) ep_none .fz)) ea_nil))))) (show 5 ≤ 1000 by decide))) ea_nil)) ⟨pot, (([([(("even" : Str), ("even" : Str)), (("stand" : Str), ("stand" : Str)), (("even" : Str), ("even" : Str)), (("stand" : Str), ("bow" : Str))] : (List tPair)), (cutL ([(("even" : Str), ("even" : Str)), (("stand" : Str), ("stand" : Str)), (("even" : Str), ("even" : Str)), (("stand" : Str), ("bow" : Str))] : (List tPair)) none (some 2)), (cutL ([(("even" : Str), ("even" : Str)), (("stand" : Str), ("stand" : Str)), (("even" : Str), ("even" : Str)), (("stand" : Str), ("bow" : Str))] : (List tPair)) none (some 1)), (cutL ([(("even" : Str), ("even" : Str)), (("stand" : Str), ("stand" : Str)), (("even" : Str), ("even" : Str)), (("stand" : Str), ("bow" : Str))] : (List tPair)) (some 1) (some 2)), (cutL ([(("even" : Str), ("even" : Str)), (("stand" : Str), ("stand" : Str)), (("even" : Str), ("even" : Str)), (("stand" : Str), ("bow" : Str))] : (List tPair)) (some 1) none)] : (List (List tPair)))).map (eFL ePair), ((D.lst ((p354.1).map ePair)), p354.2), pickP_map (eFL ePair) hp354, .inl rfl, rfl, rfl⟩) trivial) ?_
  obtain ⟨p355, hp355, h_⟩ := bsplit h; replace h := h_; clear h_
  obtain ⟨p356, hp356, h_⟩ := bsplit h; replace h := h_; clear h_
  refine sl_cons (Γ1 := [some (Pot.m nmPot (p356.2)), some (.im (D.int many)), some (.im (D.int rooms)), some (.im (D.lst ((([(("even" : Str), ("even" : Str)), (("stand" : Str), ("stand" : Str)), (("even" : Str), ("even" : Str)), (("stand" : Str), ("bow" : Str))] : (List tPair))).map ePair))), some (.im (D.lst ((p354.1).map ePair))), some (.im (eHouse (p355.1))), some (.im (D.int (p356.1))), none, none, none]) (s_unp2 (Γ1 := [some (Pot.m nmPot (p356.2)), some (.im (D.int many)), some (.im (D.int rooms)), some (.im (D.lst ((([(("even" : Str), ("even" : Str)), (("stand" : Str), ("stand" : Str)), (("even" : Str), ("even" : Str)), (("stand" : Str), ("bow" : Str))] : (List tPair))).map ePair))), some (.im (D.lst ((p354.1).map ePair))), none, none, none, none, none]) (m1 := (.im (eHouse (p355.1)))) (m2 := (.im (D.int (p356.1)))) 5 6 rfl sc_l_waiting.nd rfl rfl (by decide) (by first | exact Or.inl rfl | exact Or.inr rfl) (by first | exact Or.inl rfl | exact Or.inr rfl) (np1 hpin (by decide)) (np1 hpin (by decide)) trivial trivial (ea_cons (ee_callX (k := 4) (G_l_house.mono (by decide)) hr hG g_l_house kp_l_house b_l_house (ea_cons (ee_tk 0 (pv 0)) (ea_cons (ee_var 1 (pv 1)) (ea_cons (ee_var 2 (pv 2)) (ea_cons ee_int (ea_cons ee_int ea_nil))))) ⟨p354.2, many, rooms, 4, 5, p355, hp355, rfl, rfl, rfl⟩) (ea_cons (ee_callX (k := 4) (G_l_draw.mono (by decide)) hr hG g_l_draw kp_l_draw b_l_draw (ea_cons (ee_tk 0 (pv 0)) (ea_cons (ee_var 2 (pv 2)) ea_nil)) ⟨(p355.2), rooms, p356, hp356, rfl, rfl, rfl⟩) ea_nil))) ?_
  obtain ⟨p358, hp358, h_⟩ := bsplit h; replace h := h_; clear h_
  obtain ⟨p359, hp359, h_⟩ := bsplit h; replace h := h_; clear h_
  obtain ⟨p360, hp360, h_⟩ := bsplit h; replace h := h_; clear h_
  refine sl_cons (Γ1 := [some (Pot.m nmPot (p358.2)), some (.im (D.int many)), some (.im (D.int rooms)), some (.im (D.lst ((([(("even" : Str), ("even" : Str)), (("stand" : Str), ("stand" : Str)), (("even" : Str), ("even" : Str)), (("stand" : Str), ("bow" : Str))] : (List tPair))).map ePair))), some (.im (D.lst ((p354.1).map ePair))), some (.im (eHouse (p355.1))), some (.im (D.int (p356.1))), some (.im (D.tup (((((cutL ((p355.1).1) none (some (p356.1))) ++ ([(some (p358.1))] : (List (Option tDoor)))) ++ (cutL ((p355.1).1) (some ((p356.1) + 1)) none))).map (eO eDoor)))), none, none]) (s_set (Γ1 := [some (Pot.m nmPot (p358.2)), some (.im (D.int many)), some (.im (D.int rooms)), some (.im (D.lst ((([(("even" : Str), ("even" : Str)), (("stand" : Str), ("stand" : Str)), (("even" : Str), ("even" : Str)), (("stand" : Str), ("bow" : Str))] : (List tPair))).map ePair))), some (.im (D.lst ((p354.1).map ePair))), some (.im (eHouse (p355.1))), some (.im (D.int (p356.1))), none, none, none]) (m := (.im (D.tup (((((cutL ((p355.1).1) none (some (p356.1))) ++ ([(some (p358.1))] : (List (Option tDoor)))) ++ (cutL ((p355.1).1) (some ((p356.1) + 1)) none))).map (eO eDoor))))) 7 sc_l_waiting.nd rfl (by first | exact Or.inl rfl | exact Or.inr rfl) (np1 hpin (by decide)) (ee_catTE (enc := (eO eDoor)) (xs := ((cutL ((p355.1).1) none (some (p356.1))) ++ ([(some (p358.1))] : (List (Option tDoor))))) (ys := (cutL ((p355.1).1) (some ((p356.1) + 1)) none)) (ee_catTE (enc := (eO eDoor)) (xs := (cutL ((p355.1).1) none (some (p356.1)))) (ys := ([(some (p358.1))] : (List (Option tDoor)))) (ee_slTE (enc := (eO eDoor)) (ee_ixT (ee_var 5 (pv 5)) ee_int rfl) ep_none (ep_some (ee_var 6 (pv 6)))) (ee_tup (ds := List.map (eO eDoor) ([(some (p358.1))] : (List (Option tDoor)))) (ea_cons (ee_callX (k := 4) (G_l_door.mono (by decide)) hr hG g_l_door kp_l_door b_l_door (ea_cons (ee_tk 0 (pv 0)) (ea_cons (ee_var 1 (pv 1)) (ea_cons (ee_var 4 (pv 4)) ea_nil))) ⟨(p356.2), many, p354.1, p358, hp358, rfl, rfl, rfl⟩) ea_nil) (show 1 ≤ 1000 by decide)) (gd_d hp359)) (ee_slTE (enc := (eO eDoor)) (ee_ixT (ee_var 5 (pv 5)) ee_int rfl) (ep_some (ee_add (ee_var 6 (pv 6)) ee_int)) ep_none) (gd_d hp360)) trivial) ?_
  obtain ⟨p362, hp362, h_⟩ := bsplit h; replace h := h_; clear h_
  obtain ⟨p366, hp366, h_⟩ := bsplit h; replace h := h_; clear h_
  refine sl_cons (Γ1 := [some (Pot.m nmPot (p366.1)), some (.im (D.int many)), some (.im (D.int rooms)), some (.im (D.lst ((([(("even" : Str), ("even" : Str)), (("stand" : Str), ("stand" : Str)), (("even" : Str), ("even" : Str)), (("stand" : Str), ("bow" : Str))] : (List tPair))).map ePair))), some (.im (D.lst ((p354.1).map ePair))), some (.im (eHouse (p355.1))), some (.im (D.int (p356.1))), some (.im (D.tup (((((cutL ((p355.1).1) none (some (p356.1))) ++ ([(some (p358.1))] : (List (Option tDoor)))) ++ (cutL ((p355.1).1) (some ((p356.1) + 1)) none))).map (eO eDoor)))), some (.im (D.lst ((p366.2).map eWay))), none]) (s_lock 8 (Γ1 := [some (Pot.m nmPot (p366.1)), some (.im (D.int many)), some (.im (D.int rooms)), some (.im (D.lst ((([(("even" : Str), ("even" : Str)), (("stand" : Str), ("stand" : Str)), (("even" : Str), ("even" : Str)), (("stand" : Str), ("bow" : Str))] : (List tPair))).map ePair))), some (.im (D.lst ((p354.1).map ePair))), some (.im (eHouse (p355.1))), some (.im (D.int (p356.1))), some (.im (D.tup (((((cutL ((p355.1).1) none (some (p356.1))) ++ ([(some (p358.1))] : (List (Option tDoor)))) ++ (cutL ((p355.1).1) (some ((p356.1) + 1)) none))).map (eO eDoor)))), some (.li ((p366.2).map eWay)), none]) (s_setLc 8 (s1 := p366.1) (ys := p366.2) (f := (fun (t361 : Pot) (c361 : tWay) => (drawP_m t361 8).bind fun p363 => some ((p363.2), some (if (decide (0 < (p363.1))) = true then ([(((("in" : Str), (p356.1)), (("out" : Str), (p356.1))).1), (((("in" : Str), (p356.1)), (("out" : Str), (p356.1))).2)] : tWay) else c361)))) (enc := eWay) (eb := eWay) (xs := (((p355.1).2))) (s0 := (p358.2)) (hx := (fun v => .hid (.im (.tup ((((p355.1).2)).map eWay))) v)) (cond := (fun _ => True)) (Γs := fun (t361 : Pot) => [some (Pot.m nmPot t361), some (.im (D.int many)), some (.im (D.int rooms)), some (.im (D.lst ((([(("even" : Str), ("even" : Str)), (("stand" : Str), ("stand" : Str)), (("even" : Str), ("even" : Str)), (("stand" : Str), ("bow" : Str))] : (List tPair))).map ePair))), some (.im (D.lst ((p354.1).map ePair))), some (.im (eHouse (p355.1))), some (.im (D.int (p356.1))), some (.im (D.tup (((((cutL ((p355.1).1) none (some (p356.1))) ++ ([(some (p358.1))] : (List (Option tDoor)))) ++ (cutL ((p355.1).1) (some ((p356.1) + 1)) none))).map (eO eDoor)))), none, none]) (Γt := fun (t361 : Pot) (c361 : tWay) => [some (Pot.m nmPot t361), some (.im (D.int many)), some (.im (D.int rooms)), some (.im (D.lst ((([(("even" : Str), ("even" : Str)), (("stand" : Str), ("stand" : Str)), (("even" : Str), ("even" : Str)), (("stand" : Str), ("bow" : Str))] : (List tPair))).map ePair))), some (.im (D.lst ((p354.1).map ePair))), some (.im (eHouse (p355.1))), some (.im (D.int (p356.1))), some (.im (D.tup (((((cutL ((p355.1).1) none (some (p356.1))) ++ ([(some (p358.1))] : (List (Option tDoor)))) ++ (cutL ((p355.1).1) (some ((p356.1) + 1)) none))).map (eO eDoor)))), none, some (.im (D.tup ((c361).map eStep)))]) (Γu := fun (t361 : Pot) (c361 : tWay) => [some (Pot.m nmPot t361), some (.im (D.int many)), some (.im (D.int rooms)), some (.im (D.lst ((([(("even" : Str), ("even" : Str)), (("stand" : Str), ("stand" : Str)), (("even" : Str), ("even" : Str)), (("stand" : Str), ("bow" : Str))] : (List tPair))).map ePair))), some (.im (D.lst ((p354.1).map ePair))), some (.im (eHouse (p355.1))), some (.im (D.int (p356.1))), some (.im (D.tup (((((cutL ((p355.1).1) none (some (p356.1))) ++ ([(some (p358.1))] : (List (Option tDoor)))) ++ (cutL ((p355.1).1) (some ((p356.1) + 1)) none))).map (eO eDoor)))), none, some (.im (D.tup ((c361).map eStep)))]) (tb := (fun _ _ => true)) rfl sc_l_waiting.nd rfl rfl (np1 hpin (by decide)) trivial (blkOk_by (own := [("way", 9)]) (N := N_l_waiting) (sc := defScope s_l_waiting) (by decide +kernel))
   { fx := Fix.hid, it := it_wk (Γ1 := [some (Pot.m nmPot (p358.2)), some (.im (D.int many)), some (.im (D.int rooms)), some (.im (D.lst ((([(("even" : Str), ("even" : Str)), (("stand" : Str), ("stand" : Str)), (("even" : Str), ("even" : Str)), (("stand" : Str), ("bow" : Str))] : (List tPair))).map ePair))), some (.im (D.lst ((p354.1).map ePair))), some (.im (eHouse (p355.1))), some (.im (D.int (p356.1))), some (.im (D.tup (((((cutL ((p355.1).1) none (some (p356.1))) ++ ([(some (p358.1))] : (List (Option tDoor)))) ++ (cutL ((p355.1).1) (some ((p356.1) + 1)) none))).map (eO eDoor)))), none, none]) (it_tup (ee_ixT (ee_var 5 (pv 5)) ee_int rfl)) ⟨rfl, ⟨rfl, ⟨rfl, ⟨rfl, ⟨rfl, ⟨rfl, ⟨rfl, ⟨rfl, trivial⟩⟩⟩⟩⟩⟩⟩⟩, cd := fun _ => trivial, gt := fun s H Ca cl fp v q acc t361 c361 => (gt_name 9 sc_l_waiting.nd rfl (by first | exact Or.inl rfl | exact Or.inr rfl) (np1 hpin (by decide)) ⟨trivial, ⟨trivial, trivial⟩⟩ (by decide)), tt := fun s H Ca cl fp v q acc t361 c361 _ => tests0,
        el := fun s H Ca cl fp v q acc t361 c361 st' y hk hf => by
            obtain ⟨p363, hp363, hf_⟩ := bsplit hf; replace hf := hf_; clear hf_; obtain ⟨hf1, hf2⟩ := Prod.mk.inj (Option.some.inj hf); subst hf1; replace hf2 := Option.some.inj hf2; subst hf2; exact ee_wk (Γ1 := [some (Pot.m nmPot (p363.2)), some (.im (D.int many)), some (.im (D.int rooms)), some (.im (D.lst ((([(("even" : Str), ("even" : Str)), (("stand" : Str), ("stand" : Str)), (("even" : Str), ("even" : Str)), (("stand" : Str), ("bow" : Str))] : (List tPair))).map ePair))), some (.im (D.lst ((p354.1).map ePair))), some (.im (eHouse (p355.1))), some (.im (D.int (p356.1))), some (.im (D.tup (((((cutL ((p355.1).1) none (some (p356.1))) ++ ([(some (p358.1))] : (List (Option tDoor)))) ++ (cutL ((p355.1).1) (some ((p356.1) + 1)) none))).map (eO eDoor)))), none, some (.im (D.tup ((c361).map eStep)))]) (ee_if (t := .own (.im (D.tup (((if (decide (0 < (p363.1))) = true then ([(((("in" : Str), (p356.1)), (("out" : Str), (p356.1))).1), (((("in" : Str), (p356.1)), (("out" : Str), (p356.1))).2)] : tWay) else c361)).map eStep)))) (Γ' := [some (Pot.m nmPot (p363.2)), some (.im (D.int many)), some (.im (D.int rooms)), some (.im (D.lst ((([(("even" : Str), ("even" : Str)), (("stand" : Str), ("stand" : Str)), (("even" : Str), ("even" : Str)), (("stand" : Str), ("bow" : Str))] : (List tPair))).map ePair))), some (.im (D.lst ((p354.1).map ePair))), some (.im (eHouse (p355.1))), some (.im (D.int (p356.1))), some (.im (D.tup (((((cutL ((p355.1).1) none (some (p356.1))) ++ ([(some (p358.1))] : (List (Option tDoor)))) ++ (cutL ((p355.1).1) (some ((p356.1) + 1)) none))).map (eO eDoor)))), none, some (.im (D.tup ((c361).map eStep)))]) (et_gt (ee_callX (k := 4) (G_l_draw.mono (by decide)) hr hG g_l_draw kp_l_draw b_l_draw (ea_cons (ee_tk 0 (pv 0)) (ea_cons ee_int ea_nil)) ⟨t361, 8, p363, hp363, rfl, rfl, rfl⟩) ee_int) (fun hk => by rw [if_t hk]; exact (ee_to (d2 := (D.tup ((([(((("in" : Str), (p356.1)), (("out" : Str), (p356.1))).1), (((("in" : Str), (p356.1)), (("out" : Str), (p356.1))).2)] : tWay)).map eStep))) (ee_tup (ds := [(eStep (("in" : Str), (p356.1))), (eStep (("out" : Str), (p356.1)))]) (ea_cons (ee_tup (ds := [(D.str ("in" : Str)), (D.int (p356.1))]) (ea_cons ee_str (ea_cons (ee_var 6 (pv 6)) ea_nil)) (show 2 ≤ 1000 by decide)) (ea_cons (ee_tup (ds := [(D.str ("out" : Str)), (D.int (p356.1))]) (ea_cons ee_str (ea_cons (ee_var 6 (pv 6)) ea_nil)) (show 2 ≤ 1000 by decide)) ea_nil)) (show 2 ≤ 1000 by decide)) rfl)) (fun hk => by rw [if_f hk]; exact (ee_var 9 (pv 9)))) ⟨rfl, ⟨rfl, ⟨rfl, ⟨rfl, ⟨rfl, ⟨rfl, ⟨rfl, ⟨rfl, trivial⟩⟩⟩⟩⟩⟩⟩⟩,
        ft := fun t361 c361 r hk hf => by
            obtain ⟨p363, hp363, hf_⟩ := bsplit hf; replace hf := hf_; clear hf_; cases hf; exact ⟨_, rfl⟩,
        ff := fun t361 c361 r hk hf => Bool.noConfusion hk, br := fun _ => (bare_cons rfl bare_nil), fr := (freeJ_cons trivial freeJ_nil), fh := fun v => (freeJ_cons ⟨trivial, trivial⟩ freeJ_nil), pn := pnJ hpin (by decide), ln := (gd_d hp362) }
   hp366 (sw_true rfl rfl rfl (by decide +kernel))) rfl) ?_
  replace h := Option.some.inj h
  subst h
  exact sl_exit (s_ret (Γ1 := [some (Pot.m nmPot (p366.1)), some (.im (D.int many)), some (.im (D.int rooms)), some (.im (D.lst ((([(("even" : Str), ("even" : Str)), (("stand" : Str), ("stand" : Str)), (("even" : Str), ("even" : Str)), (("stand" : Str), ("bow" : Str))] : (List tPair))).map ePair))), some (.im (D.lst ((p354.1).map ePair))), some (.im (eHouse (p355.1))), some (.im (D.int (p356.1))), some (.im (D.tup (((((cutL ((p355.1).1) none (some (p356.1))) ++ ([(some (p358.1))] : (List (Option tDoor)))) ++ (cutL ((p355.1).1) (some ((p356.1) + 1)) none))).map (eO eDoor)))), some (.im (D.lst ((p366.2).map eWay))), none]) (m := (.im ((eT2 eHouse D.int) (((((cutL ((p355.1).1) none (some (p356.1))) ++ ([(some (p358.1))] : (List (Option tDoor)))) ++ (cutL ((p355.1).1) (some ((p356.1) + 1)) none)), p366.2), (p356.1))))) (ee_tup (ds := [(eHouse ((((cutL ((p355.1).1) none (some (p356.1))) ++ ([(some (p358.1))] : (List (Option tDoor)))) ++ (cutL ((p355.1).1) (some ((p356.1) + 1)) none)), p366.2)), (D.int (p356.1))]) (ea_cons (ee_tup (ds := [(D.tup (((((cutL ((p355.1).1) none (some (p356.1))) ++ ([(some (p358.1))] : (List (Option tDoor)))) ++ (cutL ((p355.1).1) (some ((p356.1) + 1)) none))).map (eO eDoor))), (D.tup ((p366.2).map eWay))]) (ea_cons (ee_var 7 (pv 7)) (ea_cons (ee_tupOf (ds := List.map eWay p366.2) g_tuple (ee_var 8 (pv 8)) .fz) ea_nil)) (show 2 ≤ 1000 by decide)) (ea_cons (ee_var 6 (pv 6)) ea_nil)) (show 2 ≤ 1000 by decide)) ⟨rfl, trivial⟩) rfl
/-! ### law -/
abbrev N_law : List Str := ["script", "pot", "turn", "many", "rooms", "house", "room", "ring", "kept", "due"]
theorem sc_law : FnScope N_law ["script"] (defScope s_law) := ⟨rfl, rfl, rfl, by decide +kernel, rfl, by decide +kernel, by decide +kernel⟩
def law_L2 (house : tHouse) (room : Int) (s : Unit) (x : (List Int)) : Option (Out Unit Bool) := (shDD ((eF2 eHouse (eTL D.int)) (house, x))).bind fun p375 => (atI (house.1) room).bind fun p376 => (p376).bind fun p377 => (l_told_events_m p377 x).bind fun p378 => (events_m house room x).bind fun p379 => (events_m house room x).bind fun p380 => (gd (sameQ 4 (D.lst ((([p379, p380] : (List (List Ev)))).map (eTL eEv))) (D.lst ((([p378, p378] : (List (List Ev)))).map (eTL eEv))))).bind fun p381 => if (!true) = true then (some (.rt false)) else ((shDD ((eF2 eHouse (eTL D.int)) (house, x))).bind fun p383 => if (!(decide (p383 = p375))) = true then (some (.rt false)) else (some (.nx ())))
def law_L1  (s : Pot) (x : Int) : Option (Out Pot Bool) := (drawP_m s 4).bind fun p369 => (drawP_m (p369.2) 3).bind fun p370 => (l_waiting_m (p370.2) (2 + (p369.1)) (1 + (p370.1))).bind fun p371 => (l_hand_rings_m ((p371.1).1) ((p371.1).2) ([("stand" : Str), ("even" : Str)] : tRow)).bind fun p372 => (mixP_m (p371.2) p372).bind fun p373 => (forO (law_L2 ((p371.1).1) ((p371.1).2)) () ((cutL p373.1 none (some 12)))).bind fun p395 => p395.k (fun q396 => some (.nx p373.2)) (fun r => some (.rt r))
def law_m (script : (List Int)) : Option Bool := (l_pot_m script).bind fun p367 => (forO law_L1 p367 (rng 0 3)).bind fun p425 => p425.k (fun q426 => some true) (fun r => some r)
abbrev lawR : List M → M → List M → Prop := fun ms r ms' => ∃ (script : (List Int)) (out : Bool), law_m script = some out ∧ ms = [(.im (D.lst ((script).map D.int)))] ∧ r = (.im (D.bl out)) ∧ ms' = []
theorem law_ok {P : Program} {w : World} {K : PySem.W.Frag} {mg : Str → Option Value} {base : Heap} {f : Addr} {fd : FuncData} (F : FnP K "law" s_law f fd) {f_events : Addr} {fd_events : FuncData} (G_events : FnG P w K mg base 3 f_events fd_events ["house", "room", "ring"] (spR K 3 [] eventsR)) (F_events : FnP K "events" s_events f_events fd_events) (g_events : mg "events" = some (.ref f_events)) {f_l_pot : Addr} {fd_l_pot : FuncData} (G_l_pot : FnG P w K mg base 1 f_l_pot fd_l_pot ["script"] (spR K 1 [] l_potR)) (F_l_pot : FnP K "_law_pot" s_l_pot f_l_pot fd_l_pot) (g_l_pot : mg "_law_pot" = some (.ref f_l_pot)) {f_l_draw : Addr} {fd_l_draw : FuncData} (G_l_draw : FnG P w K mg base 1 f_l_draw fd_l_draw ["pot", "many"] (spR K 2 [0] drawPR)) (F_l_draw : FnP K "_law_draw" s_l_draw f_l_draw fd_l_draw) (g_l_draw : mg "_law_draw" = some (.ref f_l_draw)) {f_l_same : Addr} {fd_l_same : FuncData} (G_l_same : FnG P w K mg base 5 f_l_same fd_l_same ["found", "due"] (spR K 2 [] (samePR 4))) (F_l_same : FnP K "_law_same" s_l_same f_l_same fd_l_same) (g_l_same : mg "_law_same" = some (.ref f_l_same)) {f_l_mixed : Addr} {fd_l_mixed : FuncData} (G_l_mixed : FnG P w K mg base 2 f_l_mixed fd_l_mixed ["pot", "items"] (spR K 2 [0] mixPR)) (F_l_mixed : FnP K "_law_mixed" s_l_mixed f_l_mixed fd_l_mixed) (g_l_mixed : mg "_law_mixed" = some (.ref f_l_mixed)) {f_l_hand_rings : Addr} {fd_l_hand_rings : FuncData} (G_l_hand_rings : FnG P w K mg base 2 f_l_hand_rings fd_l_hand_rings ["house", "room", "words"] (spR K 3 [] l_hand_ringsR)) (F_l_hand_rings : FnP K "_law_hand_rings" s_l_hand_rings f_l_hand_rings fd_l_hand_rings) (g_l_hand_rings : mg "_law_hand_rings" = some (.ref f_l_hand_rings)) {f_l_told_events : Addr} {fd_l_told_events : FuncData} (G_l_told_events : FnG P w K mg base 3 f_l_told_events fd_l_told_events ["door", "ring"] (spR K 2 [] l_told_eventsR)) (F_l_told_events : FnP K "_law_told_events" s_l_told_events f_l_told_events fd_l_told_events) (g_l_told_events : mg "_law_told_events" = some (.ref f_l_told_events)) {f_l_waiting : Addr} {fd_l_waiting : FuncData} (G_l_waiting : FnG P w K mg base 5 f_l_waiting fd_l_waiting ["pot", "many", "rooms"] (spR K 3 [0] l_waitingR)) (F_l_waiting : FnP K "_law_waiting" s_l_waiting f_l_waiting fd_l_waiting) (g_l_waiting : mg "_law_waiting" = some (.ref f_l_waiting)) (g_range : mg "range" = none) (g_repr : mg "repr" = none) (g_tuple : mg "tuple" = none) : FnG P w K mg base 6 f fd ["script"] (spR K 1 [] lawR) := by
  refine fn_body (k := 5) F sc_law rfl (by decide) (by decide) (by decide) (by rintro ms r ms' ⟨script, out, _, rfl, _, rfl⟩; exact ⟨rfl, rfl⟩) ?_
  rintro cdv A outer s H E H0 io pin mio hpin hr hG ms r ms' ⟨script, out, h, rfl, rfl, rfl⟩
  refine ⟨[none, none, none, none, none, none, none, none, none, none], ?_, fun k i m h1 h2 => by simp at h1⟩
  unfold law_m at h
  refine sl_in ?_
  have kp_events := F_events.kp
  have b_events : Binds K fd_events ["house", "room", "ring"] [] := F_events.bindsN fun _ _ _ _ _ _ us hl => match us, hl with | [_, _, _], _ => rfl
  have k210_events : KBinds K fd_events ["house", "room", "ring"] ["ring", "room", "house"] (prm [2, 1, 0]) (prm [2, 1, 0]) := kbinds_of F_events (fun kV doc pm an cdv ct us ws hl => by
        match us, ws, hl with
        | [], [_, _, _], _ => rfl
        | [], [], hl => cases hl
        | [], [_], hl => cases hl
        | [], [_, _], hl => cases hl
        | [], _ :: _ :: _ :: _ :: _, hl => rfl
        | _ :: _, _, hl => cases hl) prm_rel
  have kp_l_pot := F_l_pot.kp
  have b_l_pot : Binds K fd_l_pot ["script"] [] := F_l_pot.bindsN fun _ _ _ _ _ _ us hl => match us, hl with | [_], _ => rfl
  have kp_l_draw := F_l_draw.kp
  have b_l_draw : Binds K fd_l_draw ["pot", "many"] [] := F_l_draw.bindsN fun _ _ _ _ _ _ us hl => match us, hl with | [_, _], _ => rfl
  have kp_l_same := F_l_same.kp
  have b_l_same : Binds K fd_l_same ["found", "due"] [] := F_l_same.bindsN fun _ _ _ _ _ _ us hl => match us, hl with | [_, _], _ => rfl
  have kp_l_mixed := F_l_mixed.kp
  have b_l_mixed : Binds K fd_l_mixed ["pot", "items"] [] := F_l_mixed.bindsN fun _ _ _ _ _ _ us hl => match us, hl with | [_, _], _ => rfl
  have kp_l_hand_rings := F_l_hand_rings.kp
  have b_l_hand_rings : Binds K fd_l_hand_rings ["house", "room", "words"] [] := F_l_hand_rings.bindsN fun _ _ _ _ _ _ us hl => match us, hl with | [_, _, _], _ => rfl
  have kp_l_told_events := F_l_told_events.kp
  have b_l_told_events : Binds K fd_l_told_events ["door", "ring"] [] := F_l_told_events.bindsN fun _ _ _ _ _ _ us hl => match us, hl with | [_, _], _ => rfl
  have kp_l_waiting := F_l_waiting.kp
  have b_l_waiting : Binds K fd_l_waiting ["pot", "many", "rooms"] [] := F_l_waiting.bindsN fun _ _ _ _ _ _ us hl => match us, hl with | [_, _, _], _ => rfl
  obtain ⟨p367, hp367, h_⟩ := bsplit h; replace h := h_; clear h_
  refine sl_cons (Γ1 := [some (.im (D.lst ((script).map D.int))), some (Pot.m nmPot p367), none, none, none, none, none, none, none, none]) (s_set (Γ1 := [some (.im (D.lst ((script).map D.int))), none, none, none, none, none, none, none, none, none]) (m := (Pot.m nmPot p367)) 1 sc_law.nd rfl (by first | exact Or.inl rfl | exact Or.inr rfl) (np1 hpin (by decide)) (ee_callX (k := 5) (G_l_pot.mono (by decide)) hr hG g_l_pot kp_l_pot b_l_pot (ea_cons (ee_var 0 (pv 0)) ea_nil) ⟨script, p367, hp367, rfl, rfl, rfl⟩) trivial) ?_
  obtain ⟨p425, hp425, h_⟩ := bsplit h; replace h := h_; clear h_
  cases p425 with
  | bk z =>
    exact (outk_bk h).elim
  | ct z =>
    exact (outk_ct h).elim
  | rt z =>
    replace h := outk_rt h
    replace h := Option.some.inj h
    subst h
    refine sl_exit (o := .rt _ _) (s_forO (R := Bool) (ρ := (fun (r : Bool) => ([none, none, none, none, none, none, none, none, none, none], (.im (D.bl r))))) (J := [2]) (enc := D.int) (xs := (rng 0 3)) (hx := (fun v => .hid (.im .non) v)) (cond := (fun _ => True)) (f := law_L1) (s0 := p367) (Γs := fun (s368 : Pot) => [some (.im (D.lst ((script).map D.int))), some (Pot.m nmPot s368), none, none, none, none, none, none, none, none]) (Γt := fun (s368 : Pot) (x368 : Int) => [some (.im (D.lst ((script).map D.int))), some (Pot.m nmPot s368), some (.im (D.int x368)), none, none, none, none, none, none, none]) rfl Fix.hid (it_wk (Γ1 := [some (.im (D.lst ((script).map D.int))), some (Pot.m nmPot p367), none, none, none, none, none, none, none, none]) (it_rng1 g_range ee_int (by decide) (by decide)) ⟨rfl, ⟨rfl, trivial⟩⟩) (fun _ => trivial) ?_ ?_ hp425) rfl
    · intro v368 s368 x368
      exact (gt_name 2 sc_law.nd rfl (by first | exact Or.inl rfl | exact Or.inr rfl) (np1 hpin (by decide)) ⟨trivial, trivial⟩ (by decide))
    · intro v368 s368 x368 o368 hf368
      unfold law_L1 at hf368
      refine sl_in ?_
      obtain ⟨p397, hp397, hf368_⟩ := bsplit hf368; replace hf368 := hf368_; clear hf368_
      obtain ⟨p398, hp398, hf368_⟩ := bsplit hf368; replace hf368 := hf368_; clear hf368_
      refine sl_cons (Γ1 := [some (.im (D.lst ((script).map D.int))), some (Pot.m nmPot (p398.2)), some (.im (D.int x368)), some (.im (D.int (2 + (p397.1)))), some (.im (D.int (1 + (p398.1)))), none, none, none, none, none]) (s_par2 (Γ1 := [some (.im (D.lst ((script).map D.int))), some (Pot.m nmPot (p398.2)), some (.im (D.int x368)), none, none, none, none, none, none, none]) (m1 := (.im (D.int (2 + (p397.1))))) (m2 := (.im (D.int (1 + (p398.1))))) 3 4 rfl sc_law.nd rfl rfl (by decide) rfl rfl (np1 hpin (by decide)) (np1 hpin (by decide)) ⟨trivial, trivial⟩ ⟨trivial, trivial⟩ (ea_cons (ee_add ee_int (ee_callX (k := 5) (G_l_draw.mono (by decide)) hr hG g_l_draw kp_l_draw b_l_draw (ea_cons (ee_tk 1 (pv 1)) (ea_cons ee_int ea_nil)) ⟨s368, 4, p397, hp397, rfl, rfl, rfl⟩)) (ea_cons (ee_add ee_int (ee_callX (k := 5) (G_l_draw.mono (by decide)) hr hG g_l_draw kp_l_draw b_l_draw (ea_cons (ee_tk 1 (pv 1)) (ea_cons ee_int ea_nil)) ⟨(p397.2), 3, p398, hp398, rfl, rfl, rfl⟩)) ea_nil))) ?_
      obtain ⟨p399, hp399, hf368_⟩ := bsplit hf368; replace hf368 := hf368_; clear hf368_
      refine sl_cons (Γ1 := [some (.im (D.lst ((script).map D.int))), some (Pot.m nmPot (p399.2)), some (.im (D.int x368)), some (.im (D.int (2 + (p397.1)))), some (.im (D.int (1 + (p398.1)))), some (.im (eHouse ((p399.1).1))), some (.im (D.int ((p399.1).2))), none, none, none]) (s_unp (Γ1 := [some (.im (D.lst ((script).map D.int))), some (Pot.m nmPot (p399.2)), some (.im (D.int x368)), some (.im (D.int (2 + (p397.1)))), some (.im (D.int (1 + (p398.1)))), none, none, none, none, none]) (J := [5, 6]) (ee_callX (k := 5) (G_l_waiting.mono (by decide)) hr hG g_l_waiting kp_l_waiting b_l_waiting (ea_cons (ee_tk 1 (pv 1)) (ea_cons (ee_var 3 (pv 3)) (ea_cons (ee_var 4 (pv 4)) ea_nil))) ⟨(p398.2), (2 + (p397.1)), (1 + (p398.1)), p399, hp399, rfl, rfl, rfl⟩) (gt_tup rfl (gts_cons (gt_name 5 sc_law.nd rfl (by first | exact Or.inl rfl | exact Or.inr rfl) (np1 hpin (by decide)) ⟨trivial, trivial⟩ (by decide)) (gts_cons (gt_name 6 sc_law.nd rfl (by first | exact Or.inl rfl | exact Or.inr rfl) (np1 hpin (by decide)) ⟨trivial, trivial⟩ (by decide)) gts_nil)))) ?_
      obtain ⟨p400, hp400, hf368_⟩ := bsplit hf368; replace hf368 := hf368_; clear hf368_
      obtain ⟨p401, hp401, hf368_⟩ := bsplit hf368; replace hf368 := hf368_; clear hf368_
      obtain ⟨p423, hp423, hf368_⟩ := bsplit hf368; replace hf368 := hf368_; clear hf368_
      cases p423 with
      | bk z =>
        exact (outk_bk hf368).elim
      | ct z =>
        exact (outk_ct hf368).elim
      | rt z =>
        replace hf368 := outk_rt hf368
        replace hf368 := Option.some.inj hf368
        subst hf368
        refine sl_exit (o := .rt _ _) (s_forO (R := Bool) (ρ := (fun (r : Bool) => ([none, none, none, none, none, none, none, none, none, none], (.im (D.bl r))))) (J := [7]) (enc := (eTL D.int)) (xs := ((cutL p401.1 none (some 12)))) (hx := (fun v => .hid (.li (((cutL p401.1 none (some 12))).map (eTL D.int))) v)) (cond := (fun _ => True)) (f := (law_L2 ((p399.1).1) ((p399.1).2))) (s0 := ()) (Γs := fun (s402 : Unit) => [some (.im (D.lst ((script).map D.int))), some (Pot.m nmPot p401.2), some (.im (D.int x368)), some (.im (D.int (2 + (p397.1)))), some (.im (D.int (1 + (p398.1)))), some (.im (eHouse ((p399.1).1))), some (.im (D.int ((p399.1).2))), none, none, none]) (Γt := fun (s402 : Unit) (x402 : (List Int)) => [some (.im (D.lst ((script).map D.int))), some (Pot.m nmPot p401.2), some (.im (D.int x368)), some (.im (D.int (2 + (p397.1)))), some (.im (D.int (1 + (p398.1)))), some (.im (eHouse ((p399.1).1))), some (.im (D.int ((p399.1).2))), some (.im (D.tup ((x402).map D.int))), none, none]) rfl Fix.hid (it_wk (Γ1 := [some (.im (D.lst ((script).map D.int))), some (Pot.m nmPot p401.2), some (.im (D.int x368)), some (.im (D.int (2 + (p397.1)))), some (.im (D.int (1 + (p398.1)))), some (.im (eHouse ((p399.1).1))), some (.im (D.int ((p399.1).2))), none, none, none]) (it_lstH (ee_slLE (enc := (eTL D.int)) (ee_callX (k := 5) (G_l_mixed.mono (by decide)) hr hG g_l_mixed kp_l_mixed b_l_mixed (ea_cons (ee_tk 1 (pv 1)) (ea_cons (ee_callX (k := 5) (G_l_hand_rings.mono (by decide)) hr hG g_l_hand_rings kp_l_hand_rings b_l_hand_rings (ea_cons (ee_var 5 (pv 5)) (ea_cons (ee_var 6 (pv 6)) (ea_cons (ee_tup (ds := List.map D.str ([("stand" : Str), ("even" : Str)] : tRow)) (ea_cons ee_str (ea_cons ee_str ea_nil)) (show 2 ≤ 1000 by decide)) ea_nil))) ⟨((p399.1).1), ((p399.1).2), ([("stand" : Str), ("even" : Str)] : tRow), p400, hp400, rfl, rfl, rfl⟩) ea_nil)) ⟨(p399.2), (p400).map (eTL D.int), ((p401.1).map (eTL D.int), p401.2), mixP_map (eTL D.int) hp401, .inl rfl, rfl, rfl⟩) ep_none (ep_some ee_int) .own)) ⟨rfl, ⟨rfl, ⟨rfl, ⟨rfl, ⟨rfl, ⟨rfl, ⟨rfl, trivial⟩⟩⟩⟩⟩⟩⟩) (fun _ => trivial) ?_ ?_ hp423) rfl
        · intro v402 s402 x402
          exact (gt_name 7 sc_law.nd rfl (by first | exact Or.inl rfl | exact Or.inr rfl) (np1 hpin (by decide)) ⟨trivial, ⟨trivial, trivial⟩⟩ (by decide))
        · intro v402 s402 x402 o402 hf402
          unfold law_L2 at hf402
          refine sl_in ?_
          obtain ⟨p413, hp413, hf402_⟩ := bsplit hf402; replace hf402 := hf402_; clear hf402_
          obtain ⟨p414, hp414, hf402_⟩ := bsplit hf402; replace hf402 := hf402_; clear hf402_
          obtain ⟨p415, hp415, hf402_⟩ := bsplit hf402; replace hf402 := hf402_; clear hf402_
          obtain ⟨p416, hp416, hf402_⟩ := bsplit hf402; replace hf402 := hf402_; clear hf402_
          refine sl_cons (Γ1 := [some (.im (D.lst ((script).map D.int))), some (Pot.m nmPot p401.2), some (.im (D.int x368)), some (.im (D.int (2 + (p397.1)))), some (.im (D.int (1 + (p398.1)))), some (.im (eHouse ((p399.1).1))), some (.im (D.int ((p399.1).2))), some (.im (D.tup ((x402).map D.int))), some (.im (D.str p413)), some (.im (D.tup ((p416).map eEv)))]) (s_par2 (Γ1 := [some (.im (D.lst ((script).map D.int))), some (Pot.m nmPot p401.2), some (.im (D.int x368)), some (.im (D.int (2 + (p397.1)))), some (.im (D.int (1 + (p398.1)))), some (.im (eHouse ((p399.1).1))), some (.im (D.int ((p399.1).2))), some (.im (D.tup ((x402).map D.int))), none, none]) (m1 := (.im (D.str p413))) (m2 := (.im (D.tup ((p416).map eEv)))) 8 9 rfl sc_law.nd rfl rfl (by decide) rfl rfl (np1 hpin (by decide)) (np1 hpin (by decide)) ⟨trivial, ⟨trivial, trivial⟩⟩ ⟨trivial, ⟨trivial, trivial⟩⟩ (ea_cons (ee_shDD hG hr.units g_repr (ee_lock (ee_lst (ds := [(eHouse ((p399.1).1)), (D.tup ((x402).map D.int))]) (ea_cons (ee_var 5 (pv 5)) (ea_cons (ee_var 7 (pv 7)) ea_nil)) (show 2 ≤ 1000 by decide))) hp413) (ea_cons (ee_tupOf (ds := List.map eEv p416) g_tuple (ee_callX (k := 5) (G_l_told_events.mono (by decide)) hr hG g_l_told_events kp_l_told_events b_l_told_events (ea_cons (ee_some (f := eDoor) (ee_ixTE (enc := (eO eDoor)) (ee_ixT (ee_var 5 (pv 5)) ee_int rfl) (ee_var 6 (pv 6)) hp414) hp415) (ea_cons (ee_var 7 (pv 7)) ea_nil)) ⟨p415, x402, p416, hp416, rfl, rfl, rfl⟩) .fz) ea_nil))) ?_
          obtain ⟨p417, hp417, hf402_⟩ := bsplit hf402; replace hf402 := hf402_; clear hf402_
          obtain ⟨p418, hp418, hf402_⟩ := bsplit hf402; replace hf402 := hf402_; clear hf402_
          obtain ⟨p419, hp419, hf402_⟩ := bsplit hf402; replace hf402 := hf402_; clear hf402_
          rcases Bool.eq_false_or_eq_true ((!true)) with hk420 | hk420
          · replace hf402 := (if_t hk420).symm.trans hf402
            refine sl_ift (et_not (et_val (ee_callX (k := 5) (ms := [.im (D.lst ((([p417, p418] : (List (List Ev)))).map (eTL eEv))), .im (D.lst ((([p416, p416] : (List (List Ev)))).map (eTL eEv)))]) (G_l_same.mono (by decide)) hr hG g_l_same kp_l_same b_l_same (ea_cons (ee_lock (ee_lst (ds := List.map (eTL eEv) ([p417, p418] : (List (List Ev)))) (ea_cons (ee_callX (k := 5) (G_events.mono (by decide)) hr hG g_events kp_events b_events (ea_cons (ee_var 5 (pv 5)) (ea_cons (ee_var 6 (pv 6)) (ea_cons (ee_var 7 (pv 7)) ea_nil))) ⟨((p399.1).1), ((p399.1).2), x402, p417, hp417, rfl, rfl, rfl⟩) (ea_cons (ee_callK0 (k := 5) (ds := [(eHouse ((p399.1).1)), (D.int ((p399.1).2)), (D.tup ((x402).map D.int))]) (ds2 := [(D.tup ((x402).map D.int)), (D.int ((p399.1).2)), (eHouse ((p399.1).1))]) (G_events.mono (by decide)) hr hG g_events kp_events k210_events (ek_cons (ee_var 7 (pv 7)) (ek_cons (ee_var 6 (pv 6)) (ek_cons (ee_var 5 (pv 5)) ek_nil))) (fun zs H hz => prm_rD (p := [2, 1, 0]) hz) rfl ⟨((p399.1).1), ((p399.1).2), x402, p418, hp418, rfl, rfl, rfl⟩) ea_nil)) (show 2 ≤ 1000 by decide))) (ea_cons (ee_lock (ee_lst (ds := List.map (eTL eEv) ([p416, p416] : (List (List Ev)))) (ea_cons (ee_var 9 (pv 9)) (ea_cons (ee_var 9 (pv 9)) ea_nil)) (show 2 ≤ 1000 by decide))) ea_nil)) ⟨(D.lst ((([p416, p416] : (List (List Ev)))).map (eTL eEv))), sameQ_pq hp419, congrArg (fun z => [M.im z, M.im (D.lst ((([p416, p416] : (List (List Ev)))).map (eTL eEv)))]) (sameQ_eq hp419), rfl, rfl⟩))) hk420 ?_
            replace hf402 := Option.some.inj hf402
            subst hf402
            exact sl_exit (s_ret (Γ1 := [some (.im (D.lst ((script).map D.int))), some (Pot.m nmPot p401.2), some (.im (D.int x368)), some (.im (D.int (2 + (p397.1)))), some (.im (D.int (1 + (p398.1)))), some (.im (eHouse ((p399.1).1))), some (.im (D.int ((p399.1).2))), some (.im (D.tup ((x402).map D.int))), some (.im (D.str p413)), some (.im (D.tup ((p416).map eEv)))]) (m := (.im (D.bl false))) ee_bl trivial) rfl
          · replace hf402 := (if_f hk420).symm.trans hf402
            refine sl_iff (et_not (et_val (ee_callX (k := 5) (ms := [.im (D.lst ((([p417, p418] : (List (List Ev)))).map (eTL eEv))), .im (D.lst ((([p416, p416] : (List (List Ev)))).map (eTL eEv)))]) (G_l_same.mono (by decide)) hr hG g_l_same kp_l_same b_l_same (ea_cons (ee_lock (ee_lst (ds := List.map (eTL eEv) ([p417, p418] : (List (List Ev)))) (ea_cons (ee_callX (k := 5) (G_events.mono (by decide)) hr hG g_events kp_events b_events (ea_cons (ee_var 5 (pv 5)) (ea_cons (ee_var 6 (pv 6)) (ea_cons (ee_var 7 (pv 7)) ea_nil))) ⟨((p399.1).1), ((p399.1).2), x402, p417, hp417, rfl, rfl, rfl⟩) (ea_cons (ee_callK0 (k := 5) (ds := [(eHouse ((p399.1).1)), (D.int ((p399.1).2)), (D.tup ((x402).map D.int))]) (ds2 := [(D.tup ((x402).map D.int)), (D.int ((p399.1).2)), (eHouse ((p399.1).1))]) (G_events.mono (by decide)) hr hG g_events kp_events k210_events (ek_cons (ee_var 7 (pv 7)) (ek_cons (ee_var 6 (pv 6)) (ek_cons (ee_var 5 (pv 5)) ek_nil))) (fun zs H hz => prm_rD (p := [2, 1, 0]) hz) rfl ⟨((p399.1).1), ((p399.1).2), x402, p418, hp418, rfl, rfl, rfl⟩) ea_nil)) (show 2 ≤ 1000 by decide))) (ea_cons (ee_lock (ee_lst (ds := List.map (eTL eEv) ([p416, p416] : (List (List Ev)))) (ea_cons (ee_var 9 (pv 9)) (ea_cons (ee_var 9 (pv 9)) ea_nil)) (show 2 ≤ 1000 by decide))) ea_nil)) ⟨(D.lst ((([p416, p416] : (List (List Ev)))).map (eTL eEv))), sameQ_pq hp419, congrArg (fun z => [M.im z, M.im (D.lst ((([p416, p416] : (List (List Ev)))).map (eTL eEv)))]) (sameQ_eq hp419), rfl, rfl⟩))) hk420 ?_
            refine sl_pop ?_
            obtain ⟨p421, hp421, hf402_⟩ := bsplit hf402; replace hf402 := hf402_; clear hf402_
            rcases Bool.eq_false_or_eq_true ((!(decide (p421 = p413)))) with hk422 | hk422
            · replace hf402 := (if_t hk422).symm.trans hf402
              refine sl_ift (et_neS (ee_shDD hG hr.units g_repr (ee_lock (ee_lst (ds := [(eHouse ((p399.1).1)), (D.tup ((x402).map D.int))]) (ea_cons (ee_var 5 (pv 5)) (ea_cons (ee_var 7 (pv 7)) ea_nil)) (show 2 ≤ 1000 by decide))) hp421) (ee_var 8 (pv 8))) hk422 ?_
              replace hf402 := Option.some.inj hf402
              subst hf402
              exact sl_exit (s_ret (Γ1 := [some (.im (D.lst ((script).map D.int))), some (Pot.m nmPot p401.2), some (.im (D.int x368)), some (.im (D.int (2 + (p397.1)))), some (.im (D.int (1 + (p398.1)))), some (.im (eHouse ((p399.1).1))), some (.im (D.int ((p399.1).2))), some (.im (D.tup ((x402).map D.int))), some (.im (D.str p413)), some (.im (D.tup ((p416).map eEv)))]) (m := (.im (D.bl false))) ee_bl trivial) rfl
            · replace hf402 := (if_f hk422).symm.trans hf402
              refine sl_iff (et_neS (ee_shDD hG hr.units g_repr (ee_lock (ee_lst (ds := [(eHouse ((p399.1).1)), (D.tup ((x402).map D.int))]) (ea_cons (ee_var 5 (pv 5)) (ea_cons (ee_var 7 (pv 7)) ea_nil)) (show 2 ≤ 1000 by decide))) hp421) (ee_var 8 (pv 8))) hk422 ?_
              refine sl_pop ?_
              replace hf402 := Option.some.inj hf402
              subst hf402
              exact sl_end ⟨rfl, ⟨rfl, ⟨rfl, ⟨rfl, ⟨rfl, ⟨rfl, ⟨rfl, trivial⟩⟩⟩⟩⟩⟩⟩
      | nx q424 =>
        replace hf368 := outk_nx hf368
        refine sl_cons (Γ1 := [some (.im (D.lst ((script).map D.int))), some (Pot.m nmPot p401.2), some (.im (D.int x368)), some (.im (D.int (2 + (p397.1)))), some (.im (D.int (1 + (p398.1)))), some (.im (eHouse ((p399.1).1))), some (.im (D.int ((p399.1).2))), none, none, none]) (s_forO (R := Bool) (ρ := (fun (r : Bool) => ([none, none, none, none, none, none, none, none, none, none], (.im (D.bl r))))) (J := [7]) (enc := (eTL D.int)) (xs := ((cutL p401.1 none (some 12)))) (hx := (fun v => .hid (.li (((cutL p401.1 none (some 12))).map (eTL D.int))) v)) (cond := (fun _ => True)) (f := (law_L2 ((p399.1).1) ((p399.1).2))) (s0 := ()) (Γs := fun (s402 : Unit) => [some (.im (D.lst ((script).map D.int))), some (Pot.m nmPot p401.2), some (.im (D.int x368)), some (.im (D.int (2 + (p397.1)))), some (.im (D.int (1 + (p398.1)))), some (.im (eHouse ((p399.1).1))), some (.im (D.int ((p399.1).2))), none, none, none]) (Γt := fun (s402 : Unit) (x402 : (List Int)) => [some (.im (D.lst ((script).map D.int))), some (Pot.m nmPot p401.2), some (.im (D.int x368)), some (.im (D.int (2 + (p397.1)))), some (.im (D.int (1 + (p398.1)))), some (.im (eHouse ((p399.1).1))), some (.im (D.int ((p399.1).2))), some (.im (D.tup ((x402).map D.int))), none, none]) rfl Fix.hid (it_wk (Γ1 := [some (.im (D.lst ((script).map D.int))), some (Pot.m nmPot p401.2), some (.im (D.int x368)), some (.im (D.int (2 + (p397.1)))), some (.im (D.int (1 + (p398.1)))), some (.im (eHouse ((p399.1).1))), some (.im (D.int ((p399.1).2))), none, none, none]) (it_lstH (ee_slLE (enc := (eTL D.int)) (ee_callX (k := 5) (G_l_mixed.mono (by decide)) hr hG g_l_mixed kp_l_mixed b_l_mixed (ea_cons (ee_tk 1 (pv 1)) (ea_cons (ee_callX (k := 5) (G_l_hand_rings.mono (by decide)) hr hG g_l_hand_rings kp_l_hand_rings b_l_hand_rings (ea_cons (ee_var 5 (pv 5)) (ea_cons (ee_var 6 (pv 6)) (ea_cons (ee_tup (ds := List.map D.str ([("stand" : Str), ("even" : Str)] : tRow)) (ea_cons ee_str (ea_cons ee_str ea_nil)) (show 2 ≤ 1000 by decide)) ea_nil))) ⟨((p399.1).1), ((p399.1).2), ([("stand" : Str), ("even" : Str)] : tRow), p400, hp400, rfl, rfl, rfl⟩) ea_nil)) ⟨(p399.2), (p400).map (eTL D.int), ((p401.1).map (eTL D.int), p401.2), mixP_map (eTL D.int) hp401, .inl rfl, rfl, rfl⟩) ep_none (ep_some ee_int) .own)) ⟨rfl, ⟨rfl, ⟨rfl, ⟨rfl, ⟨rfl, ⟨rfl, ⟨rfl, trivial⟩⟩⟩⟩⟩⟩⟩) (fun _ => trivial) ?_ ?_ hp423) ?_
        · intro v402 s402 x402
          exact (gt_name 7 sc_law.nd rfl (by first | exact Or.inl rfl | exact Or.inr rfl) (np1 hpin (by decide)) ⟨trivial, ⟨trivial, trivial⟩⟩ (by decide))
        · intro v402 s402 x402 o402 hf402
          unfold law_L2 at hf402
          refine sl_in ?_
          obtain ⟨p413, hp413, hf402_⟩ := bsplit hf402; replace hf402 := hf402_; clear hf402_
          obtain ⟨p414, hp414, hf402_⟩ := bsplit hf402; replace hf402 := hf402_; clear hf402_
          obtain ⟨p415, hp415, hf402_⟩ := bsplit hf402; replace hf402 := hf402_; clear hf402_
          obtain ⟨p416, hp416, hf402_⟩ := bsplit hf402; replace hf402 := hf402_; clear hf402_
          refine sl_cons (Γ1 := [some (.im (D.lst ((script).map D.int))), some (Pot.m nmPot p401.2), some (.im (D.int x368)), some (.im (D.int (2 + (p397.1)))), some (.im (D.int (1 + (p398.1)))), some (.im (eHouse ((p399.1).1))), some (.im (D.int ((p399.1).2))), some (.im (D.tup ((x402).map D.int))), some (.im (D.str p413)), some (.im (D.tup ((p416).map eEv)))]) (s_par2 (Γ1 := [some (.im (D.lst ((script).map D.int))), some (Pot.m nmPot p401.2), some (.im (D.int x368)), some (.im (D.int (2 + (p397.1)))), some (.im (D.int (1 + (p398.1)))), some (.im (eHouse ((p399.1).1))), some (.im (D.int ((p399.1).2))), some (.im (D.tup ((x402).map D.int))), none, none]) (m1 := (.im (D.str p413))) (m2 := (.im (D.tup ((p416).map eEv)))) 8 9 rfl sc_law.nd rfl rfl (by decide) rfl rfl (np1 hpin (by decide)) (np1 hpin (by decide)) ⟨trivial, ⟨trivial, trivial⟩⟩ ⟨trivial, ⟨trivial, trivial⟩⟩ (ea_cons (ee_shDD hG hr.units g_repr (ee_lock (ee_lst (ds := [(eHouse ((p399.1).1)), (D.tup ((x402).map D.int))]) (ea_cons (ee_var 5 (pv 5)) (ea_cons (ee_var 7 (pv 7)) ea_nil)) (show 2 ≤ 1000 by decide))) hp413) (ea_cons (ee_tupOf (ds := List.map eEv p416) g_tuple (ee_callX (k := 5) (G_l_told_events.mono (by decide)) hr hG g_l_told_events kp_l_told_events b_l_told_events (ea_cons (ee_some (f := eDoor) (ee_ixTE (enc := (eO eDoor)) (ee_ixT (ee_var 5 (pv 5)) ee_int rfl) (ee_var 6 (pv 6)) hp414) hp415) (ea_cons (ee_var 7 (pv 7)) ea_nil)) ⟨p415, x402, p416, hp416, rfl, rfl, rfl⟩) .fz) ea_nil))) ?_
          obtain ⟨p417, hp417, hf402_⟩ := bsplit hf402; replace hf402 := hf402_; clear hf402_
          obtain ⟨p418, hp418, hf402_⟩ := bsplit hf402; replace hf402 := hf402_; clear hf402_
          obtain ⟨p419, hp419, hf402_⟩ := bsplit hf402; replace hf402 := hf402_; clear hf402_
          rcases Bool.eq_false_or_eq_true ((!true)) with hk420 | hk420
          · replace hf402 := (if_t hk420).symm.trans hf402
            refine sl_ift (et_not (et_val (ee_callX (k := 5) (ms := [.im (D.lst ((([p417, p418] : (List (List Ev)))).map (eTL eEv))), .im (D.lst ((([p416, p416] : (List (List Ev)))).map (eTL eEv)))]) (G_l_same.mono (by decide)) hr hG g_l_same kp_l_same b_l_same (ea_cons (ee_lock (ee_lst (ds := List.map (eTL eEv) ([p417, p418] : (List (List Ev)))) (ea_cons (ee_callX (k := 5) (G_events.mono (by decide)) hr hG g_events kp_events b_events (ea_cons (ee_var 5 (pv 5)) (ea_cons (ee_var 6 (pv 6)) (ea_cons (ee_var 7 (pv 7)) ea_nil))) ⟨((p399.1).1), ((p399.1).2), x402, p417, hp417, rfl, rfl, rfl⟩) (ea_cons (ee_callK0 (k := 5) (ds := [(eHouse ((p399.1).1)), (D.int ((p399.1).2)), (D.tup ((x402).map D.int))]) (ds2 := [(D.tup ((x402).map D.int)), (D.int ((p399.1).2)), (eHouse ((p399.1).1))]) (G_events.mono (by decide)) hr hG g_events kp_events k210_events (ek_cons (ee_var 7 (pv 7)) (ek_cons (ee_var 6 (pv 6)) (ek_cons (ee_var 5 (pv 5)) ek_nil))) (fun zs H hz => prm_rD (p := [2, 1, 0]) hz) rfl ⟨((p399.1).1), ((p399.1).2), x402, p418, hp418, rfl, rfl, rfl⟩) ea_nil)) (show 2 ≤ 1000 by decide))) (ea_cons (ee_lock (ee_lst (ds := List.map (eTL eEv) ([p416, p416] : (List (List Ev)))) (ea_cons (ee_var 9 (pv 9)) (ea_cons (ee_var 9 (pv 9)) ea_nil)) (show 2 ≤ 1000 by decide))) ea_nil)) ⟨(D.lst ((([p416, p416] : (List (List Ev)))).map (eTL eEv))), sameQ_pq hp419, congrArg (fun z => [M.im z, M.im (D.lst ((([p416, p416] : (List (List Ev)))).map (eTL eEv)))]) (sameQ_eq hp419), rfl, rfl⟩))) hk420 ?_
            replace hf402 := Option.some.inj hf402
            subst hf402
            exact sl_exit (s_ret (Γ1 := [some (.im (D.lst ((script).map D.int))), some (Pot.m nmPot p401.2), some (.im (D.int x368)), some (.im (D.int (2 + (p397.1)))), some (.im (D.int (1 + (p398.1)))), some (.im (eHouse ((p399.1).1))), some (.im (D.int ((p399.1).2))), some (.im (D.tup ((x402).map D.int))), some (.im (D.str p413)), some (.im (D.tup ((p416).map eEv)))]) (m := (.im (D.bl false))) ee_bl trivial) rfl
          · replace hf402 := (if_f hk420).symm.trans hf402
            refine sl_iff (et_not (et_val (ee_callX (k := 5) (ms := [.im (D.lst ((([p417, p418] : (List (List Ev)))).map (eTL eEv))), .im (D.lst ((([p416, p416] : (List (List Ev)))).map (eTL eEv)))]) (G_l_same.mono (by decide)) hr hG g_l_same kp_l_same b_l_same (ea_cons (ee_lock (ee_lst (ds := List.map (eTL eEv) ([p417, p418] : (List (List Ev)))) (ea_cons (ee_callX (k := 5) (G_events.mono (by decide)) hr hG g_events kp_events b_events (ea_cons (ee_var 5 (pv 5)) (ea_cons (ee_var 6 (pv 6)) (ea_cons (ee_var 7 (pv 7)) ea_nil))) ⟨((p399.1).1), ((p399.1).2), x402, p417, hp417, rfl, rfl, rfl⟩) (ea_cons (ee_callK0 (k := 5) (ds := [(eHouse ((p399.1).1)), (D.int ((p399.1).2)), (D.tup ((x402).map D.int))]) (ds2 := [(D.tup ((x402).map D.int)), (D.int ((p399.1).2)), (eHouse ((p399.1).1))]) (G_events.mono (by decide)) hr hG g_events kp_events k210_events (ek_cons (ee_var 7 (pv 7)) (ek_cons (ee_var 6 (pv 6)) (ek_cons (ee_var 5 (pv 5)) ek_nil))) (fun zs H hz => prm_rD (p := [2, 1, 0]) hz) rfl ⟨((p399.1).1), ((p399.1).2), x402, p418, hp418, rfl, rfl, rfl⟩) ea_nil)) (show 2 ≤ 1000 by decide))) (ea_cons (ee_lock (ee_lst (ds := List.map (eTL eEv) ([p416, p416] : (List (List Ev)))) (ea_cons (ee_var 9 (pv 9)) (ea_cons (ee_var 9 (pv 9)) ea_nil)) (show 2 ≤ 1000 by decide))) ea_nil)) ⟨(D.lst ((([p416, p416] : (List (List Ev)))).map (eTL eEv))), sameQ_pq hp419, congrArg (fun z => [M.im z, M.im (D.lst ((([p416, p416] : (List (List Ev)))).map (eTL eEv)))]) (sameQ_eq hp419), rfl, rfl⟩))) hk420 ?_
            refine sl_pop ?_
            obtain ⟨p421, hp421, hf402_⟩ := bsplit hf402; replace hf402 := hf402_; clear hf402_
            rcases Bool.eq_false_or_eq_true ((!(decide (p421 = p413)))) with hk422 | hk422
            · replace hf402 := (if_t hk422).symm.trans hf402
              refine sl_ift (et_neS (ee_shDD hG hr.units g_repr (ee_lock (ee_lst (ds := [(eHouse ((p399.1).1)), (D.tup ((x402).map D.int))]) (ea_cons (ee_var 5 (pv 5)) (ea_cons (ee_var 7 (pv 7)) ea_nil)) (show 2 ≤ 1000 by decide))) hp421) (ee_var 8 (pv 8))) hk422 ?_
              replace hf402 := Option.some.inj hf402
              subst hf402
              exact sl_exit (s_ret (Γ1 := [some (.im (D.lst ((script).map D.int))), some (Pot.m nmPot p401.2), some (.im (D.int x368)), some (.im (D.int (2 + (p397.1)))), some (.im (D.int (1 + (p398.1)))), some (.im (eHouse ((p399.1).1))), some (.im (D.int ((p399.1).2))), some (.im (D.tup ((x402).map D.int))), some (.im (D.str p413)), some (.im (D.tup ((p416).map eEv)))]) (m := (.im (D.bl false))) ee_bl trivial) rfl
            · replace hf402 := (if_f hk422).symm.trans hf402
              refine sl_iff (et_neS (ee_shDD hG hr.units g_repr (ee_lock (ee_lst (ds := [(eHouse ((p399.1).1)), (D.tup ((x402).map D.int))]) (ea_cons (ee_var 5 (pv 5)) (ea_cons (ee_var 7 (pv 7)) ea_nil)) (show 2 ≤ 1000 by decide))) hp421) (ee_var 8 (pv 8))) hk422 ?_
              refine sl_pop ?_
              replace hf402 := Option.some.inj hf402
              subst hf402
              exact sl_end ⟨rfl, ⟨rfl, ⟨rfl, ⟨rfl, ⟨rfl, ⟨rfl, ⟨rfl, trivial⟩⟩⟩⟩⟩⟩⟩
        replace hf368 := Option.some.inj hf368
        subst hf368
        exact sl_end ⟨rfl, ⟨rfl, trivial⟩⟩
  | nx q426 =>
    replace h := outk_nx h
    refine sl_cons (Γ1 := [some (.im (D.lst ((script).map D.int))), some (Pot.m nmPot q426), none, none, none, none, none, none, none, none]) (s_forO (R := Bool) (ρ := (fun (r : Bool) => ([none, none, none, none, none, none, none, none, none, none], (.im (D.bl r))))) (J := [2]) (enc := D.int) (xs := (rng 0 3)) (hx := (fun v => .hid (.im .non) v)) (cond := (fun _ => True)) (f := law_L1) (s0 := p367) (Γs := fun (s368 : Pot) => [some (.im (D.lst ((script).map D.int))), some (Pot.m nmPot s368), none, none, none, none, none, none, none, none]) (Γt := fun (s368 : Pot) (x368 : Int) => [some (.im (D.lst ((script).map D.int))), some (Pot.m nmPot s368), some (.im (D.int x368)), none, none, none, none, none, none, none]) rfl Fix.hid (it_wk (Γ1 := [some (.im (D.lst ((script).map D.int))), some (Pot.m nmPot p367), none, none, none, none, none, none, none, none]) (it_rng1 g_range ee_int (by decide) (by decide)) ⟨rfl, ⟨rfl, trivial⟩⟩) (fun _ => trivial) ?_ ?_ hp425) ?_
    · intro v368 s368 x368
      exact (gt_name 2 sc_law.nd rfl (by first | exact Or.inl rfl | exact Or.inr rfl) (np1 hpin (by decide)) ⟨trivial, trivial⟩ (by decide))
    · intro v368 s368 x368 o368 hf368
      unfold law_L1 at hf368
      refine sl_in ?_
      obtain ⟨p397, hp397, hf368_⟩ := bsplit hf368; replace hf368 := hf368_; clear hf368_
      obtain ⟨p398, hp398, hf368_⟩ := bsplit hf368; replace hf368 := hf368_; clear hf368_
      refine sl_cons (Γ1 := [some (.im (D.lst ((script).map D.int))), some (Pot.m nmPot (p398.2)), some (.im (D.int x368)), some (.im (D.int (2 + (p397.1)))), some (.im (D.int (1 + (p398.1)))), none, none, none, none, none]) (s_par2 (Γ1 := [some (.im (D.lst ((script).map D.int))), some (Pot.m nmPot (p398.2)), some (.im (D.int x368)), none, none, none, none, none, none, none]) (m1 := (.im (D.int (2 + (p397.1))))) (m2 := (.im (D.int (1 + (p398.1))))) 3 4 rfl sc_law.nd rfl rfl (by decide) rfl rfl (np1 hpin (by decide)) (np1 hpin (by decide)) ⟨trivial, trivial⟩ ⟨trivial, trivial⟩ (ea_cons (ee_add ee_int (ee_callX (k := 5) (G_l_draw.mono (by decide)) hr hG g_l_draw kp_l_draw b_l_draw (ea_cons (ee_tk 1 (pv 1)) (ea_cons ee_int ea_nil)) ⟨s368, 4, p397, hp397, rfl, rfl, rfl⟩)) (ea_cons (ee_add ee_int (ee_callX (k := 5) (G_l_draw.mono (by decide)) hr hG g_l_draw kp_l_draw b_l_draw (ea_cons (ee_tk 1 (pv 1)) (ea_cons ee_int ea_nil)) ⟨(p397.2), 3, p398, hp398, rfl, rfl, rfl⟩)) ea_nil))) ?_
      obtain ⟨p399, hp399, hf368_⟩ := bsplit hf368; replace hf368 := hf368_; clear hf368_
      refine sl_cons (Γ1 := [some (.im (D.lst ((script).map D.int))), some (Pot.m nmPot (p399.2)), some (.im (D.int x368)), some (.im (D.int (2 + (p397.1)))), some (.im (D.int (1 + (p398.1)))), some (.im (eHouse ((p399.1).1))), some (.im (D.int ((p399.1).2))), none, none, none]) (s_unp (Γ1 := [some (.im (D.lst ((script).map D.int))), some (Pot.m nmPot (p399.2)), some (.im (D.int x368)), some (.im (D.int (2 + (p397.1)))), some (.im (D.int (1 + (p398.1)))), none, none, none, none, none]) (J := [5, 6]) (ee_callX (k := 5) (G_l_waiting.mono (by decide)) hr hG g_l_waiting kp_l_waiting b_l_waiting (ea_cons (ee_tk 1 (pv 1)) (ea_cons (ee_var 3 (pv 3)) (ea_cons (ee_var 4 (pv 4)) ea_nil))) ⟨(p398.2), (2 + (p397.1)), (1 + (p398.1)), p399, hp399, rfl, rfl, rfl⟩) (gt_tup rfl (gts_cons (gt_name 5 sc_law.nd rfl (by first | exact Or.inl rfl | exact Or.inr rfl) (np1 hpin (by decide)) ⟨trivial, trivial⟩ (by decide)) (gts_cons (gt_name 6 sc_law.nd rfl (by first | exact Or.inl rfl | exact Or.inr rfl) (np1 hpin (by decide)) ⟨trivial, trivial⟩ (by decide)) gts_nil)))) ?_
      obtain ⟨p400, hp400, hf368_⟩ := bsplit hf368; replace hf368 := hf368_; clear hf368_
      obtain ⟨p401, hp401, hf368_⟩ := bsplit hf368; replace hf368 := hf368_; clear hf368_
      obtain ⟨p423, hp423, hf368_⟩ := bsplit hf368; replace hf368 := hf368_; clear hf368_
      cases p423 with
      | bk z =>
        exact (outk_bk hf368).elim
      | ct z =>
        exact (outk_ct hf368).elim
      | rt z =>
        replace hf368 := outk_rt hf368
        replace hf368 := Option.some.inj hf368
        subst hf368
        refine sl_exit (o := .rt _ _) (s_forO (R := Bool) (ρ := (fun (r : Bool) => ([none, none, none, none, none, none, none, none, none, none], (.im (D.bl r))))) (J := [7]) (enc := (eTL D.int)) (xs := ((cutL p401.1 none (some 12)))) (hx := (fun v => .hid (.li (((cutL p401.1 none (some 12))).map (eTL D.int))) v)) (cond := (fun _ => True)) (f := (law_L2 ((p399.1).1) ((p399.1).2))) (s0 := ()) (Γs := fun (s402 : Unit) => [some (.im (D.lst ((script).map D.int))), some (Pot.m nmPot p401.2), some (.im (D.int x368)), some (.im (D.int (2 + (p397.1)))), some (.im (D.int (1 + (p398.1)))), some (.im (eHouse ((p399.1).1))), some (.im (D.int ((p399.1).2))), none, none, none]) (Γt := fun (s402 : Unit) (x402 : (List Int)) => [some (.im (D.lst ((script).map D.int))), some (Pot.m nmPot p401.2), some (.im (D.int x368)), some (.im (D.int (2 + (p397.1)))), some (.im (D.int (1 + (p398.1)))), some (.im (eHouse ((p399.1).1))), some (.im (D.int ((p399.1).2))), some (.im (D.tup ((x402).map D.int))), none, none]) rfl Fix.hid (it_wk (Γ1 := [some (.im (D.lst ((script).map D.int))), some (Pot.m nmPot p401.2), some (.im (D.int x368)), some (.im (D.int (2 + (p397.1)))), some (.im (D.int (1 + (p398.1)))), some (.im (eHouse ((p399.1).1))), some (.im (D.int ((p399.1).2))), none, none, none]) (it_lstH (ee_slLE (enc := (eTL D.int)) (ee_callX (k := 5) (G_l_mixed.mono (by decide)) hr hG g_l_mixed kp_l_mixed b_l_mixed (ea_cons (ee_tk 1 (pv 1)) (ea_cons (ee_callX (k := 5) (G_l_hand_rings.mono (by decide)) hr hG g_l_hand_rings kp_l_hand_rings b_l_hand_rings (ea_cons (ee_var 5 (pv 5)) (ea_cons (ee_var 6 (pv 6)) (ea_cons (ee_tup (ds := List.map D.str ([("stand" : Str), ("even" : Str)] : tRow)) (ea_cons ee_str (ea_cons ee_str ea_nil)) (show 2 ≤ 1000 by decide)) ea_nil))) ⟨((p399.1).1), ((p399.1).2), ([("stand" : Str), ("even" : Str)] : tRow), p400, hp400, rfl, rfl, rfl⟩) ea_nil)) ⟨(p399.2), (p400).map (eTL D.int), ((p401.1).map (eTL D.int), p401.2), mixP_map (eTL D.int) hp401, .inl rfl, rfl, rfl⟩) ep_none (ep_some ee_int) .own)) ⟨rfl, ⟨rfl, ⟨rfl, ⟨rfl, ⟨rfl, ⟨rfl, ⟨rfl, trivial⟩⟩⟩⟩⟩⟩⟩) (fun _ => trivial) ?_ ?_ hp423) rfl
        · intro v402 s402 x402
          exact (gt_name 7 sc_law.nd rfl (by first | exact Or.inl rfl | exact Or.inr rfl) (np1 hpin (by decide)) ⟨trivial, ⟨trivial, trivial⟩⟩ (by decide))
        · intro v402 s402 x402 o402 hf402
          unfold law_L2 at hf402
          refine sl_in ?_
          obtain ⟨p413, hp413, hf402_⟩ := bsplit hf402; replace hf402 := hf402_; clear hf402_
          obtain ⟨p414, hp414, hf402_⟩ := bsplit hf402; replace hf402 := hf402_; clear hf402_
          obtain ⟨p415, hp415, hf402_⟩ := bsplit hf402; replace hf402 := hf402_; clear hf402_
          obtain ⟨p416, hp416, hf402_⟩ := bsplit hf402; replace hf402 := hf402_; clear hf402_
          refine sl_cons (Γ1 := [some (.im (D.lst ((script).map D.int))), some (Pot.m nmPot p401.2), some (.im (D.int x368)), some (.im (D.int (2 + (p397.1)))), some (.im (D.int (1 + (p398.1)))), some (.im (eHouse ((p399.1).1))), some (.im (D.int ((p399.1).2))), some (.im (D.tup ((x402).map D.int))), some (.im (D.str p413)), some (.im (D.tup ((p416).map eEv)))]) (s_par2 (Γ1 := [some (.im (D.lst ((script).map D.int))), some (Pot.m nmPot p401.2), some (.im (D.int x368)), some (.im (D.int (2 + (p397.1)))), some (.im (D.int (1 + (p398.1)))), some (.im (eHouse ((p399.1).1))), some (.im (D.int ((p399.1).2))), some (.im (D.tup ((x402).map D.int))), none, none]) (m1 := (.im (D.str p413))) (m2 := (.im (D.tup ((p416).map eEv)))) 8 9 rfl sc_law.nd rfl rfl (by decide) rfl rfl (np1 hpin (by decide)) (np1 hpin (by decide)) ⟨trivial, ⟨trivial, trivial⟩⟩ ⟨trivial, ⟨trivial, trivial⟩⟩ (ea_cons (ee_shDD hG hr.units g_repr (ee_lock (ee_lst (ds := [(eHouse ((p399.1).1)), (D.tup ((x402).map D.int))]) (ea_cons (ee_var 5 (pv 5)) (ea_cons (ee_var 7 (pv 7)) ea_nil)) (show 2 ≤ 1000 by decide))) hp413) (ea_cons (ee_tupOf (ds := List.map eEv p416) g_tuple (ee_callX (k := 5) (G_l_told_events.mono (by decide)) hr hG g_l_told_events kp_l_told_events b_l_told_events (ea_cons (ee_some (f := eDoor) (ee_ixTE (enc := (eO eDoor)) (ee_ixT (ee_var 5 (pv 5)) ee_int rfl) (ee_var 6 (pv 6)) hp414) hp415) (ea_cons (ee_var 7 (pv 7)) ea_nil)) ⟨p415, x402, p416, hp416, rfl, rfl, rfl⟩) .fz) ea_nil))) ?_
          obtain ⟨p417, hp417, hf402_⟩ := bsplit hf402; replace hf402 := hf402_; clear hf402_
          obtain ⟨p418, hp418, hf402_⟩ := bsplit hf402; replace hf402 := hf402_; clear hf402_
          obtain ⟨p419, hp419, hf402_⟩ := bsplit hf402; replace hf402 := hf402_; clear hf402_
          rcases Bool.eq_false_or_eq_true ((!true)) with hk420 | hk420
          · replace hf402 := (if_t hk420).symm.trans hf402
            refine sl_ift (et_not (et_val (ee_callX (k := 5) (ms := [.im (D.lst ((([p417, p418] : (List (List Ev)))).map (eTL eEv))), .im (D.lst ((([p416, p416] : (List (List Ev)))).map (eTL eEv)))]) (G_l_same.mono (by decide)) hr hG g_l_same kp_l_same b_l_same (ea_cons (ee_lock (ee_lst (ds := List.map (eTL eEv) ([p417, p418] : (List (List Ev)))) (ea_cons (ee_callX (k := 5) (G_events.mono (by decide)) hr hG g_events kp_events b_events (ea_cons (ee_var 5 (pv 5)) (ea_cons (ee_var 6 (pv 6)) (ea_cons (ee_var 7 (pv 7)) ea_nil))) ⟨((p399.1).1), ((p399.1).2), x402, p417, hp417, rfl, rfl, rfl⟩) (ea_cons (ee_callK0 (k := 5) (ds := [(eHouse ((p399.1).1)), (D.int ((p399.1).2)), (D.tup ((x402).map D.int))]) (ds2 := [(D.tup ((x402).map D.int)), (D.int ((p399.1).2)), (eHouse ((p399.1).1))]) (G_events.mono (by decide)) hr hG g_events kp_events k210_events (ek_cons (ee_var 7 (pv 7)) (ek_cons (ee_var 6 (pv 6)) (ek_cons (ee_var 5 (pv 5)) ek_nil))) (fun zs H hz => prm_rD (p := [2, 1, 0]) hz) rfl ⟨((p399.1).1), ((p399.1).2), x402, p418, hp418, rfl, rfl, rfl⟩) ea_nil)) (show 2 ≤ 1000 by decide))) (ea_cons (ee_lock (ee_lst (ds := List.map (eTL eEv) ([p416, p416] : (List (List Ev)))) (ea_cons (ee_var 9 (pv 9)) (ea_cons (ee_var 9 (pv 9)) ea_nil)) (show 2 ≤ 1000 by decide))) ea_nil)) ⟨(D.lst ((([p416, p416] : (List (List Ev)))).map (eTL eEv))), sameQ_pq hp419, congrArg (fun z => [M.im z, M.im (D.lst ((([p416, p416] : (List (List Ev)))).map (eTL eEv)))]) (sameQ_eq hp419), rfl, rfl⟩))) hk420 ?_
            replace hf402 := Option.some.inj hf402
            subst hf402
            exact sl_exit (s_ret (Γ1 := [some (.im (D.lst ((script).map D.int))), some (Pot.m nmPot p401.2), some (.im (D.int x368)), some (.im (D.int (2 + (p397.1)))), some (.im (D.int (1 + (p398.1)))), some (.im (eHouse ((p399.1).1))), some (.im (D.int ((p399.1).2))), some (.im (D.tup ((x402).map D.int))), some (.im (D.str p413)), some (.im (D.tup ((p416).map eEv)))]) (m := (.im (D.bl false))) ee_bl trivial) rfl
          · replace hf402 := (if_f hk420).symm.trans hf402
            refine sl_iff (et_not (et_val (ee_callX (k := 5) (ms := [.im (D.lst ((([p417, p418] : (List (List Ev)))).map (eTL eEv))), .im (D.lst ((([p416, p416] : (List (List Ev)))).map (eTL eEv)))]) (G_l_same.mono (by decide)) hr hG g_l_same kp_l_same b_l_same (ea_cons (ee_lock (ee_lst (ds := List.map (eTL eEv) ([p417, p418] : (List (List Ev)))) (ea_cons (ee_callX (k := 5) (G_events.mono (by decide)) hr hG g_events kp_events b_events (ea_cons (ee_var 5 (pv 5)) (ea_cons (ee_var 6 (pv 6)) (ea_cons (ee_var 7 (pv 7)) ea_nil))) ⟨((p399.1).1), ((p399.1).2), x402, p417, hp417, rfl, rfl, rfl⟩) (ea_cons (ee_callK0 (k := 5) (ds := [(eHouse ((p399.1).1)), (D.int ((p399.1).2)), (D.tup ((x402).map D.int))]) (ds2 := [(D.tup ((x402).map D.int)), (D.int ((p399.1).2)), (eHouse ((p399.1).1))]) (G_events.mono (by decide)) hr hG g_events kp_events k210_events (ek_cons (ee_var 7 (pv 7)) (ek_cons (ee_var 6 (pv 6)) (ek_cons (ee_var 5 (pv 5)) ek_nil))) (fun zs H hz => prm_rD (p := [2, 1, 0]) hz) rfl ⟨((p399.1).1), ((p399.1).2), x402, p418, hp418, rfl, rfl, rfl⟩) ea_nil)) (show 2 ≤ 1000 by decide))) (ea_cons (ee_lock (ee_lst (ds := List.map (eTL eEv) ([p416, p416] : (List (List Ev)))) (ea_cons (ee_var 9 (pv 9)) (ea_cons (ee_var 9 (pv 9)) ea_nil)) (show 2 ≤ 1000 by decide))) ea_nil)) ⟨(D.lst ((([p416, p416] : (List (List Ev)))).map (eTL eEv))), sameQ_pq hp419, congrArg (fun z => [M.im z, M.im (D.lst ((([p416, p416] : (List (List Ev)))).map (eTL eEv)))]) (sameQ_eq hp419), rfl, rfl⟩))) hk420 ?_
            refine sl_pop ?_
            obtain ⟨p421, hp421, hf402_⟩ := bsplit hf402; replace hf402 := hf402_; clear hf402_
            rcases Bool.eq_false_or_eq_true ((!(decide (p421 = p413)))) with hk422 | hk422
            · replace hf402 := (if_t hk422).symm.trans hf402
              refine sl_ift (et_neS (ee_shDD hG hr.units g_repr (ee_lock (ee_lst (ds := [(eHouse ((p399.1).1)), (D.tup ((x402).map D.int))]) (ea_cons (ee_var 5 (pv 5)) (ea_cons (ee_var 7 (pv 7)) ea_nil)) (show 2 ≤ 1000 by decide))) hp421) (ee_var 8 (pv 8))) hk422 ?_
              replace hf402 := Option.some.inj hf402
              subst hf402
              exact sl_exit (s_ret (Γ1 := [some (.im (D.lst ((script).map D.int))), some (Pot.m nmPot p401.2), some (.im (D.int x368)), some (.im (D.int (2 + (p397.1)))), some (.im (D.int (1 + (p398.1)))), some (.im (eHouse ((p399.1).1))), some (.im (D.int ((p399.1).2))), some (.im (D.tup ((x402).map D.int))), some (.im (D.str p413)), some (.im (D.tup ((p416).map eEv)))]) (m := (.im (D.bl false))) ee_bl trivial) rfl
            · replace hf402 := (if_f hk422).symm.trans hf402
              refine sl_iff (et_neS (ee_shDD hG hr.units g_repr (ee_lock (ee_lst (ds := [(eHouse ((p399.1).1)), (D.tup ((x402).map D.int))]) (ea_cons (ee_var 5 (pv 5)) (ea_cons (ee_var 7 (pv 7)) ea_nil)) (show 2 ≤ 1000 by decide))) hp421) (ee_var 8 (pv 8))) hk422 ?_
              refine sl_pop ?_
              replace hf402 := Option.some.inj hf402
              subst hf402
              exact sl_end ⟨rfl, ⟨rfl, ⟨rfl, ⟨rfl, ⟨rfl, ⟨rfl, ⟨rfl, trivial⟩⟩⟩⟩⟩⟩⟩
      | nx q424 =>
        replace hf368 := outk_nx hf368
        refine sl_cons (Γ1 := [some (.im (D.lst ((script).map D.int))), some (Pot.m nmPot p401.2), some (.im (D.int x368)), some (.im (D.int (2 + (p397.1)))), some (.im (D.int (1 + (p398.1)))), some (.im (eHouse ((p399.1).1))), some (.im (D.int ((p399.1).2))), none, none, none]) (s_forO (R := Bool) (ρ := (fun (r : Bool) => ([none, none, none, none, none, none, none, none, none, none], (.im (D.bl r))))) (J := [7]) (enc := (eTL D.int)) (xs := ((cutL p401.1 none (some 12)))) (hx := (fun v => .hid (.li (((cutL p401.1 none (some 12))).map (eTL D.int))) v)) (cond := (fun _ => True)) (f := (law_L2 ((p399.1).1) ((p399.1).2))) (s0 := ()) (Γs := fun (s402 : Unit) => [some (.im (D.lst ((script).map D.int))), some (Pot.m nmPot p401.2), some (.im (D.int x368)), some (.im (D.int (2 + (p397.1)))), some (.im (D.int (1 + (p398.1)))), some (.im (eHouse ((p399.1).1))), some (.im (D.int ((p399.1).2))), none, none, none]) (Γt := fun (s402 : Unit) (x402 : (List Int)) => [some (.im (D.lst ((script).map D.int))), some (Pot.m nmPot p401.2), some (.im (D.int x368)), some (.im (D.int (2 + (p397.1)))), some (.im (D.int (1 + (p398.1)))), some (.im (eHouse ((p399.1).1))), some (.im (D.int ((p399.1).2))), some (.im (D.tup ((x402).map D.int))), none, none]) rfl Fix.hid (it_wk (Γ1 := [some (.im (D.lst ((script).map D.int))), some (Pot.m nmPot p401.2), some (.im (D.int x368)), some (.im (D.int (2 + (p397.1)))), some (.im (D.int (1 + (p398.1)))), some (.im (eHouse ((p399.1).1))), some (.im (D.int ((p399.1).2))), none, none, none]) (it_lstH (ee_slLE (enc := (eTL D.int)) (ee_callX (k := 5) (G_l_mixed.mono (by decide)) hr hG g_l_mixed kp_l_mixed b_l_mixed (ea_cons (ee_tk 1 (pv 1)) (ea_cons (ee_callX (k := 5) (G_l_hand_rings.mono (by decide)) hr hG g_l_hand_rings kp_l_hand_rings b_l_hand_rings (ea_cons (ee_var 5 (pv 5)) (ea_cons (ee_var 6 (pv 6)) (ea_cons (ee_tup (ds := List.map D.str ([("stand" : Str), ("even" : Str)] : tRow)) (ea_cons ee_str (ea_cons ee_str ea_nil)) (show 2 ≤ 1000 by decide)) ea_nil))) ⟨((p399.1).1), ((p399.1).2), ([("stand" : Str), ("even" : Str)] : tRow), p400, hp400, rfl, rfl, rfl⟩) ea_nil)) ⟨(p399.2), (p400).map (eTL D.int), ((p401.1).map (eTL D.int), p401.2), mixP_map (eTL D.int) hp401, .inl rfl, rfl, rfl⟩) ep_none (ep_some ee_int) .own)) ⟨rfl, ⟨rfl, ⟨rfl, ⟨rfl, ⟨rfl, ⟨rfl, ⟨rfl, trivial⟩⟩⟩⟩⟩⟩⟩) (fun _ => trivial) ?_ ?_ hp423) ?_
        · intro v402 s402 x402
          exact (gt_name 7 sc_law.nd rfl (by first | exact Or.inl rfl | exact Or.inr rfl) (np1 hpin (by decide)) ⟨trivial, ⟨trivial, trivial⟩⟩ (by decide))
        · intro v402 s402 x402 o402 hf402
          unfold law_L2 at hf402
          refine sl_in ?_
          obtain ⟨p413, hp413, hf402_⟩ := bsplit hf402; replace hf402 := hf402_; clear hf402_
          obtain ⟨p414, hp414, hf402_⟩ := bsplit hf402; replace hf402 := hf402_; clear hf402_
          obtain ⟨p415, hp415, hf402_⟩ := bsplit hf402; replace hf402 := hf402_; clear hf402_
          obtain ⟨p416, hp416, hf402_⟩ := bsplit hf402; replace hf402 := hf402_; clear hf402_
          refine sl_cons (Γ1 := [some (.im (D.lst ((script).map D.int))), some (Pot.m nmPot p401.2), some (.im (D.int x368)), some (.im (D.int (2 + (p397.1)))), some (.im (D.int (1 + (p398.1)))), some (.im (eHouse ((p399.1).1))), some (.im (D.int ((p399.1).2))), some (.im (D.tup ((x402).map D.int))), some (.im (D.str p413)), some (.im (D.tup ((p416).map eEv)))]) (s_par2 (Γ1 := [some (.im (D.lst ((script).map D.int))), some (Pot.m nmPot p401.2), some (.im (D.int x368)), some (.im (D.int (2 + (p397.1)))), some (.im (D.int (1 + (p398.1)))), some (.im (eHouse ((p399.1).1))), some (.im (D.int ((p399.1).2))), some (.im (D.tup ((x402).map D.int))), none, none]) (m1 := (.im (D.str p413))) (m2 := (.im (D.tup ((p416).map eEv)))) 8 9 rfl sc_law.nd rfl rfl (by decide) rfl rfl (np1 hpin (by decide)) (np1 hpin (by decide)) ⟨trivial, ⟨trivial, trivial⟩⟩ ⟨trivial, ⟨trivial, trivial⟩⟩ (ea_cons (ee_shDD hG hr.units g_repr (ee_lock (ee_lst (ds := [(eHouse ((p399.1).1)), (D.tup ((x402).map D.int))]) (ea_cons (ee_var 5 (pv 5)) (ea_cons (ee_var 7 (pv 7)) ea_nil)) (show 2 ≤ 1000 by decide))) hp413) (ea_cons (ee_tupOf (ds := List.map eEv p416) g_tuple (ee_callX (k := 5) (G_l_told_events.mono (by decide)) hr hG g_l_told_events kp_l_told_events b_l_told_events (ea_cons (ee_some (f := eDoor) (ee_ixTE (enc := (eO eDoor)) (ee_ixT (ee_var 5 (pv 5)) ee_int rfl) (ee_var 6 (pv 6)) hp414) hp415) (ea_cons (ee_var 7 (pv 7)) ea_nil)) ⟨p415, x402, p416, hp416, rfl, rfl, rfl⟩) .fz) ea_nil))) ?_
          obtain ⟨p417, hp417, hf402_⟩ := bsplit hf402; replace hf402 := hf402_; clear hf402_
          obtain ⟨p418, hp418, hf402_⟩ := bsplit hf402; replace hf402 := hf402_; clear hf402_
          obtain ⟨p419, hp419, hf402_⟩ := bsplit hf402; replace hf402 := hf402_; clear hf402_
          rcases Bool.eq_false_or_eq_true ((!true)) with hk420 | hk420
          · replace hf402 := (if_t hk420).symm.trans hf402
            refine sl_ift (et_not (et_val (ee_callX (k := 5) (ms := [.im (D.lst ((([p417, p418] : (List (List Ev)))).map (eTL eEv))), .im (D.lst ((([p416, p416] : (List (List Ev)))).map (eTL eEv)))]) (G_l_same.mono (by decide)) hr hG g_l_same kp_l_same b_l_same (ea_cons (ee_lock (ee_lst (ds := List.map (eTL eEv) ([p417, p418] : (List (List Ev)))) (ea_cons (ee_callX (k := 5) (G_events.mono (by decide)) hr hG g_events kp_events b_events (ea_cons (ee_var 5 (pv 5)) (ea_cons (ee_var 6 (pv 6)) (ea_cons (ee_var 7 (pv 7)) ea_nil))) ⟨((p399.1).1), ((p399.1).2), x402, p417, hp417, rfl, rfl, rfl⟩) (ea_cons (ee_callK0 (k := 5) (ds := [(eHouse ((p399.1).1)), (D.int ((p399.1).2)), (D.tup ((x402).map D.int))]) (ds2 := [(D.tup ((x402).map D.int)), (D.int ((p399.1).2)), (eHouse ((p399.1).1))]) (G_events.mono (by decide)) hr hG g_events kp_events k210_events (ek_cons (ee_var 7 (pv 7)) (ek_cons (ee_var 6 (pv 6)) (ek_cons (ee_var 5 (pv 5)) ek_nil))) (fun zs H hz => prm_rD (p := [2, 1, 0]) hz) rfl ⟨((p399.1).1), ((p399.1).2), x402, p418, hp418, rfl, rfl, rfl⟩) ea_nil)) (show 2 ≤ 1000 by decide))) (ea_cons (ee_lock (ee_lst (ds := List.map (eTL eEv) ([p416, p416] : (List (List Ev)))) (ea_cons (ee_var 9 (pv 9)) (ea_cons (ee_var 9 (pv 9)) ea_nil)) (show 2 ≤ 1000 by decide))) ea_nil)) ⟨(D.lst ((([p416, p416] : (List (List Ev)))).map (eTL eEv))), sameQ_pq hp419, congrArg (fun z => [M.im z, M.im (D.lst ((([p416, p416] : (List (List Ev)))).map (eTL eEv)))]) (sameQ_eq hp419), rfl, rfl⟩))) hk420 ?_
            replace hf402 := Option.some.inj hf402
            subst hf402
            exact sl_exit (s_ret (Γ1 := [some (.im (D.lst ((script).map D.int))), some (Pot.m nmPot p401.2), some (.im (D.int x368)), some (.im (D.int (2 + (p397.1)))), some (.im (D.int (1 + (p398.1)))), some (.im (eHouse ((p399.1).1))), some (.im (D.int ((p399.1).2))), some (.im (D.tup ((x402).map D.int))), some (.im (D.str p413)), some (.im (D.tup ((p416).map eEv)))]) (m := (.im (D.bl false))) ee_bl trivial) rfl
          · replace hf402 := (if_f hk420).symm.trans hf402
            refine sl_iff (et_not (et_val (ee_callX (k := 5) (ms := [.im (D.lst ((([p417, p418] : (List (List Ev)))).map (eTL eEv))), .im (D.lst ((([p416, p416] : (List (List Ev)))).map (eTL eEv)))]) (G_l_same.mono (by decide)) hr hG g_l_same kp_l_same b_l_same (ea_cons (ee_lock (ee_lst (ds := List.map (eTL eEv) ([p417, p418] : (List (List Ev)))) (ea_cons (ee_callX (k := 5) (G_events.mono (by decide)) hr hG g_events kp_events b_events (ea_cons (ee_var 5 (pv 5)) (ea_cons (ee_var 6 (pv 6)) (ea_cons (ee_var 7 (pv 7)) ea_nil))) ⟨((p399.1).1), ((p399.1).2), x402, p417, hp417, rfl, rfl, rfl⟩) (ea_cons (ee_callK0 (k := 5) (ds := [(eHouse ((p399.1).1)), (D.int ((p399.1).2)), (D.tup ((x402).map D.int))]) (ds2 := [(D.tup ((x402).map D.int)), (D.int ((p399.1).2)), (eHouse ((p399.1).1))]) (G_events.mono (by decide)) hr hG g_events kp_events k210_events (ek_cons (ee_var 7 (pv 7)) (ek_cons (ee_var 6 (pv 6)) (ek_cons (ee_var 5 (pv 5)) ek_nil))) (fun zs H hz => prm_rD (p := [2, 1, 0]) hz) rfl ⟨((p399.1).1), ((p399.1).2), x402, p418, hp418, rfl, rfl, rfl⟩) ea_nil)) (show 2 ≤ 1000 by decide))) (ea_cons (ee_lock (ee_lst (ds := List.map (eTL eEv) ([p416, p416] : (List (List Ev)))) (ea_cons (ee_var 9 (pv 9)) (ea_cons (ee_var 9 (pv 9)) ea_nil)) (show 2 ≤ 1000 by decide))) ea_nil)) ⟨(D.lst ((([p416, p416] : (List (List Ev)))).map (eTL eEv))), sameQ_pq hp419, congrArg (fun z => [M.im z, M.im (D.lst ((([p416, p416] : (List (List Ev)))).map (eTL eEv)))]) (sameQ_eq hp419), rfl, rfl⟩))) hk420 ?_
            refine sl_pop ?_
            obtain ⟨p421, hp421, hf402_⟩ := bsplit hf402; replace hf402 := hf402_; clear hf402_
            rcases Bool.eq_false_or_eq_true ((!(decide (p421 = p413)))) with hk422 | hk422
            · replace hf402 := (if_t hk422).symm.trans hf402
              refine sl_ift (et_neS (ee_shDD hG hr.units g_repr (ee_lock (ee_lst (ds := [(eHouse ((p399.1).1)), (D.tup ((x402).map D.int))]) (ea_cons (ee_var 5 (pv 5)) (ea_cons (ee_var 7 (pv 7)) ea_nil)) (show 2 ≤ 1000 by decide))) hp421) (ee_var 8 (pv 8))) hk422 ?_
              replace hf402 := Option.some.inj hf402
              subst hf402
              exact sl_exit (s_ret (Γ1 := [some (.im (D.lst ((script).map D.int))), some (Pot.m nmPot p401.2), some (.im (D.int x368)), some (.im (D.int (2 + (p397.1)))), some (.im (D.int (1 + (p398.1)))), some (.im (eHouse ((p399.1).1))), some (.im (D.int ((p399.1).2))), some (.im (D.tup ((x402).map D.int))), some (.im (D.str p413)), some (.im (D.tup ((p416).map eEv)))]) (m := (.im (D.bl false))) ee_bl trivial) rfl
            · replace hf402 := (if_f hk422).symm.trans hf402
              refine sl_iff (et_neS (ee_shDD hG hr.units g_repr (ee_lock (ee_lst (ds := [(eHouse ((p399.1).1)), (D.tup ((x402).map D.int))]) (ea_cons (ee_var 5 (pv 5)) (ea_cons (ee_var 7 (pv 7)) ea_nil)) (show 2 ≤ 1000 by decide))) hp421) (ee_var 8 (pv 8))) hk422 ?_
              refine sl_pop ?_
              replace hf402 := Option.some.inj hf402
              subst hf402
              exact sl_end ⟨rfl, ⟨rfl, ⟨rfl, ⟨rfl, ⟨rfl, ⟨rfl, ⟨rfl, trivial⟩⟩⟩⟩⟩⟩⟩
        replace hf368 := Option.some.inj hf368
        subst hf368
        exact sl_end ⟨rfl, ⟨rfl, trivial⟩⟩
    replace h := Option.some.inj h
    subst h
    exact sl_exit (s_ret (Γ1 := [some (.im (D.lst ((script).map D.int))), some (Pot.m nmPot q426), none, none, none, none, none, none, none, none]) (m := (.im (D.bl true))) ee_bl trivial) rfl
def held_L1  (s : (List Int)) (x : (Str × Int)) : Option (List Int) := if (decide ((x.1) = ("in" : Str))) = true then ((gd (decide ((s).length < sizeLine))).bind fun p2 => some (s ++ [(x.2)])) else (((s).getLast?).bind fun p3 => some (s).dropLast)
end LW


set_option maxHeartbeats 1000000
namespace LW
open PySem L2 RL
/-! ### plain: the pot, ways, doors, houses (the pot family) -/
local macro_rules | `(tactic| walk_at "wg") => `(tactic| first
  | refine W.g (by omega) ?_
  | refine W.g (by (first | with_reducible refine bigl ?_ | with_reducible refine big ?_); (try simp only [len_numL, rng_length, List.length_append, List.length_map, List.length_cons, List.length_nil, List.length_replicate, List.length_zip]); omega) ?_)
theorem pot_w {ns : List Int} : W (l_pot_m ns) Pot.ok := by
  unfold l_pot_m
  have hc : (cutL ns none (some 60)).length ≤ 60 := by
    have := cutL_to (xs := ns) (n := 60)
    rw [show ((60 : Nat) : Int) = 60 from rfl] at this
    rw [this]
    exact List.length_take_le _ _
  refine W.b (W.forS1 (fun _ => True) trivial fun x _ s _ => ⟨_, rfl, trivial⟩) fun s' _ => ?_
  walk_at "wg"
  refine W.e (lcM_filterU (g := fun c149 : Int => if c149 < 0 then -c149 else c149)) (W.s ?_)
  show (List.reverse _).length ≤ 63
  rw [List.length_reverse, List.length_map]
  refine Nat.le_trans (List.length_filter_le _ _) ?_
  omega
theorem cutL_from' {α : Type} {xs : List α} {n : Nat} : cutL xs (some (n : Int)) none = xs.drop n := by
  unfold cutL
  rw [HT.sIx_nat, HT.sIx_none, List.take_of_length_le (by simp)]
  rcases Nat.le_total n xs.length with h | h
  · rw [Nat.min_eq_left h]
  · rw [Nat.min_eq_right h, List.drop_of_length_le (Nat.le_refl _), List.drop_of_length_le h]
theorem mixP_w {α : Type} {d : Pot} {xs : List α} (h : d.ok) (hx : xs.length ≤ 100000) : W (mixP_m d xs) fun p => p.2.ok ∧ p.1.Perm xs := by
  unfold mixP_m
  refine W.b (W.forS (fun zs s => s.1.ok ∧ s.2.Perm zs) ⟨h, .refl _⟩ fun zs x s ⟨r, e⟩ ⟨i1, i2⟩ => ?_) fun s ⟨i1, i2⟩ => W.s ⟨i1, i2⟩
  have ln := congrArg List.length e
  simp at ln
  have l2 := i2.length_eq
  unfold mixP_f
  refine W.b (drawP_tot (n := (s.2.length : Int) + 1) i1 (by omega) (by omega)) fun p ⟨p1, p2, p3⟩ => ?_
  have ei : ((p.1.toNat : Nat) : Int) = p.1 := by omega
  have e1 : cutL s.2 none (some p.1) = s.2.take p.1.toNat := by rw [← ei, cutL_to, Int.toNat_natCast]
  have e2 : cutL s.2 (some p.1) none = s.2.drop p.1.toNat := by rw [← ei, cutL_from', Int.toNat_natCast]
  rw [e1, e2]
  have t1 : (s.2.take p.1.toNat).length ≤ s.2.length := by rw [List.length_take]; omega
  have t2 : (s.2.drop p.1.toNat).length ≤ s.2.length := by rw [List.length_drop]; omega
  walk_at "wg"
  walk_at "wg"
  refine W.s ⟨p1, ?_⟩
  show (s.2.take p.1.toNat ++ [x] ++ s.2.drop p.1.toNat).Perm (zs ++ [x])
  rw [List.append_assoc]
  refine (List.perm_middle (a := x) (l₁ := s.2.take p.1.toNat) (l₂ := s.2.drop p.1.toNat)).trans ?_
  rw [List.take_append_drop]
  exact (List.perm_append_comm (l₁ := [x]) (l₂ := s.2)).trans (i2.append_right [x])
abbrev Way := List (Str × Int)
/-- a step of a way -/
def okS (rooms : Int) (s : Str × Int) : Prop := (s.1 = "in" ∨ s.1 = "out") ∧ 0 ≤ s.2 ∧ s.2 < rooms
/-- what is held at a place -/
def heldP (way : Way) (place : Int) : List Int := (forS held_L1 [] (way.take place.toNat)).getD []
/-- what is entered is not held, what is left was entered last -/
def Nest (way : Way) : Prop := ∀ (i : Nat) s, way[i]? = some s → (s.1 = "in" ∧ s.2 ∉ heldP way i) ∨ (s.1 = "out" ∧ (heldP way i).getLast? = some s.2)
structure GoodW (rooms : Int) (way : Way) : Prop where
  ne : 1 ≤ way.length
  len : way.length ≤ 40
  all : ∀ s ∈ way, okS rooms s
  run : forS held_L1 [] way = some []
  nest : Nest way
theorem nest_snoc {way : Way} {s : Str × Int} {st : List Int} (h : Nest way) (e : forS held_L1 [] way = some st) (n : (s.1 = "in" ∧ s.2 ∉ st) ∨ (s.1 = "out" ∧ st.getLast? = some s.2)) : Nest (way ++ [s]) := by
  intro i x hx
  rcases Nat.lt_or_ge i way.length with l | l
  · rw [List.getElem?_append_left l] at hx
    have := h i x hx
    unfold heldP at this ⊢
    rw [Int.toNat_natCast, List.take_append_of_le_length (by omega)]
    rwa [Int.toNat_natCast] at this
  · rw [List.getElem?_append_right l] at hx
    have e2 : i - way.length = 0 := by
      cases q : i - way.length with
      | zero => rfl
      | succ n => rw [q] at hx; simp at hx
    rw [e2] at hx
    simp at hx
    subst hx
    have e3 : i = way.length := by omega
    subst e3
    unfold heldP
    rw [Int.toNat_natCast, List.take_append_of_le_length (Nat.le_refl _), List.take_length, e]
    exact n
theorem in_out : ¬ (Str.ofString "out" = Str.ofString "in") := by decide
theorem held_in {s : List Int} {r : Int} (h : s.length ≤ 1000) : held_L1 s (("in" : Str), r) = some (s ++ [r]) := by
  unfold held_L1
  rw [if_pos (decide_eq_true rfl), gdd (bigl (by omega))] <;> rfl
theorem held_out {s : List Int} {r v : Int} (h : s.getLast? = some v) : held_L1 s (("out" : Str), r) = some s.dropLast := by
  unfold held_L1
  rw [if_neg (fun z => in_out (of_decide_eq_true z)), h] <;> rfl
abbrev Door := List (List Str) × List (List Int)
abbrev House := List (Option Door) × List Way
def okWord (w : Str) : Prop := w = "-" ∨ w = "even" ∨ w = "stand" ∨ w = "bow"
def Rect (h : Nat) (rows : List (List Str)) : Prop := rows.length = h ∧ ∀ r ∈ rows, r.length = h ∧ ∀ w ∈ r, okWord w
theorem mem_set {α : Type} {l : List α} {i : Nat} {x y : α} (h : y ∈ l.set i x) : y = x ∨ y ∈ l := by
  rcases List.mem_or_eq_of_mem_set h with z | z
  · exact .inr z
  · exact .inl z
theorem setT_W {h : Nat} {rows : List (List Str)} {i j : Int} {x : Str} (R : Rect h rows) (i0 : 0 ≤ i) (i1 : i < h) (j0 : 0 ≤ j) (j1 : j < h) (hx : okWord x) : W (setT rows i j x) (Rect h) := by
  obtain ⟨R1, R2⟩ := R
  have hl : i.toNat < rows.length := by omega
  obtain ⟨r1, r2⟩ := R2 rows[i.toNat] (List.getElem_mem hl)
  unfold setT
  rw [ixN_pos i0 (by omega)]
  show W ((rows[i.toNat]?).bind _) _
  rw [List.getElem?_eq_getElem hl]
  show W ((ixN rows[i.toNat].length j).map _) _
  rw [ixN_pos j0 (by omega)]
  refine ⟨_, rfl, by rw [List.length_set]; exact R1, fun r hr => ?_⟩
  rcases mem_set hr with e | e
  · subst e
    refine ⟨by rw [List.length_set]; exact r1, fun w hw => ?_⟩
    rcases mem_set hw with e | e
    · subst e; exact hx
    · exact r2 w e
  · exact R2 r e
def cellR (rows : List (List Str)) (i j : Nat) : Str := (rows.getD i []).getD j ""
/-- who is even with another one is met likewise -/
def SymE (rows : List (List Str)) : Prop := ∀ i j, cellR rows i j = "even" → cellR rows j i = "even"
theorem setT_cell {h : Nat} {rows r : List (List Str)} {i j : Int} {x : Str} (R : Rect h rows) (i0 : 0 ≤ i) (i1 : i < h) (j0 : 0 ≤ j) (j1 : j < h) (e : setT rows i j x = some r) (a b : Nat) : cellR r a b = if a = i.toNat ∧ b = j.toNat then x else cellR rows a b := by
  obtain ⟨R1, R2⟩ := R
  have hl : i.toNat < rows.length := by omega
  obtain ⟨r1, r2⟩ := R2 rows[i.toNat] (List.getElem_mem hl)
  unfold setT at e
  rw [ixN_pos i0 (by omega)] at e
  change ((rows[i.toNat]?).bind _) = _ at e
  rw [List.getElem?_eq_getElem hl] at e
  change ((ixN rows[i.toNat].length j).map _) = _ at e
  rw [ixN_pos j0 (by omega)] at e
  have e := (Option.some.inj e).symm
  change r = rows.set i.toNat (rows[i.toNat].set j.toNat x) at e
  subst e
  unfold cellR
  by_cases ha : a = i.toNat
  · subst ha
    have e1 : (rows.set i.toNat (rows[i.toNat].set j.toNat x)).getD i.toNat [] = rows[i.toNat].set j.toNat x := by simp [List.getD, hl]
    have e2 : rows.getD i.toNat [] = rows[i.toNat] := by simp [List.getD, hl]
    rw [e1, e2]
    by_cases hb : b = j.toNat
    · subst hb
      rw [if_pos ⟨rfl, rfl⟩]
      have hj : j.toNat < rows[i.toNat].length := by omega
      simp [List.getD, hj]
    · rw [if_neg (fun z => hb z.2)]
      unfold List.getD
      rw [List.getElem?_set_ne (fun z => hb z.symm)]
  · rw [if_neg (fun z => ha z.1)]
    unfold List.getD
    rw [List.getElem?_set_ne (fun z => ha z.symm)]
/-- the others of a hand -/
def others (h : Nat) (k : Nat) : List Int := (rng 0 h).filter fun j => !decide (j = (k : Int))
structure GoodD (h : Nat) (d : Door) : Prop where
  rect : Rect h d.1
  sym : SymE d.1
  ol : d.2.length = h
  ord : ∀ (k : Nat) o, d.2[k]? = some o → o.Perm (others h k)
structure GoodH (hands rooms : Int) (h : House) : Prop where
  h1 : 1 ≤ hands
  h5 : hands ≤ 5
  r1 : 1 ≤ rooms
  r6 : rooms ≤ 6
  lr : (h.1.length : Int) = rooms
  lh : (h.2.length : Int) = hands
  dr : ∀ o ∈ h.1, ∀ d, o = some d → GoodD hands.toNat d
  wy : ∀ w ∈ h.2, GoodW rooms w
/-! #### a drawn way -/
def winv (B : Nat) (rooms : Int) (s : Pot × Int × Way × List Int) : Prop := s.1.ok ∧ 0 ≤ s.2.1 ∧ forS held_L1 [] s.2.2.1 = some s.2.2.2 ∧ s.2.2.1.length + 2 * s.2.1.toNat + s.2.2.2.length ≤ B ∧ 1 ≤ s.2.2.1.length + s.2.1.toNat ∧ (∀ x ∈ s.2.2.1, okS rooms x) ∧ (∀ r ∈ s.2.2.2, 0 ≤ r ∧ r < rooms) ∧ Nest s.2.2.1
def wmu (s : Pot × Int × Way × List Int) : Nat := 2 * s.2.1.toNat + s.2.2.2.length
theorem way_step {B : Nat} (hB : B ≤ 24) {rooms : Int} {sm : List Int} (hs : ∀ r ∈ sm, 0 ≤ r ∧ r < rooms) (hn : sm ≠ []) (hl : sm.length ≤ 6) (s : Pot × Int × Way × List Int) (i : winv B rooms s) (hc : l_way_L1c sm s = true) : W (l_way_L1 sm s) fun s' => winv B rooms s' ∧ wmu s' < wmu s := by
  obtain ⟨dk, left, steps, stack⟩ := s
  obtain ⟨i1, i2, i3, i4, i7, i5, i6, i8⟩ := i
  simp only at i1 i2 i3 i4 i5 i6 i7 i8
  unfold l_way_L1
  simp only
  walk_at "wg"
  refine W.e (lcM_filterU (g := fun x => x)) ?_
  simp only [List.map_id']
  have fl : (sm.filter fun x => !decide (x ∈ stack)).length ≤ 6 := Nat.le_trans (List.length_filter_le _ _) hl
  have mem : ∀ r ∈ (sm.filter fun x => !decide (x ∈ stack)), 0 ≤ r ∧ r < rooms ∧ r ∉ stack := fun r hr => by
    have := hs r (List.mem_filter.mp hr).1
    have z := (List.mem_filter.mp hr).2
    simp at z
    exact ⟨by omega, by omega, z⟩
  have nil : stack = [] → 1 ≤ left ∧ 1 ≤ (sm.filter fun x => !decide (x ∈ stack)).length := fun e => by
    subst e
    refine ⟨?_, ?_⟩
    · unfold l_way_L1c at hc
      simp at hc
      omega
    · have e2 : (sm.filter fun x => !decide (x ∈ ([] : List Int))) = sm := by simp
      rw [e2]
      exact List.length_pos_iff.mpr hn
  generalize hfree : (sm.filter fun x => !decide (x ∈ stack)) = free at *
  refine W.b (Q := fun p : Bool × Pot => p.2.ok ∧ (p.1 = false → stack ≠ []) ∧ (p.1 = true → 1 ≤ left ∧ 1 ≤ free.length)) (W.ip (fun h0 => ?_) fun h0 => W.s ⟨i1, (fun _ z => h0 (by have := (nil z).1; omega)), fun z => by cases z⟩) fun p ⟨k1, k2, k3⟩ => ?_
  · refine W.b (Q := fun p : Bool × Pot => p.2.ok ∧ (p.1 = false → stack ≠ []) ∧ (p.1 = true → 1 ≤ free.length)) (W.i (fun hf => ?_) fun hf => W.s ⟨i1, fun _ z => ?_, fun z => by cases z⟩) fun p ⟨k1, k2, k3⟩ => W.s ⟨k1, k2, fun z => ⟨by omega, k3 z⟩⟩
    · have lf : 1 ≤ free.length := by
        cases q : free with
        | nil => rw [q] at hf; cases hf
        | cons a b => simp
      refine W.b (Q := fun p : Bool × Pot => p.2.ok ∧ (p.1 = false → stack ≠ [])) (W.i (fun he => W.s ⟨i1, fun z => by cases z⟩) fun he => ?_) fun p ⟨k1, k2⟩ => W.s ⟨k1, k2, fun _ => lf⟩
      have ne : stack ≠ [] := fun z => by rw [z] at he; cases he
      exact W.b (drawP_tot (n := 5) i1 (by omega) (by omega)) fun p ⟨k1, _, _⟩ => W.s ⟨k1, fun _ => ne⟩
    · have z := (nil z).2
      cases q : free with
      | nil => rw [q] at z; simp at z
      | cons a b => rw [q] at hf; cases hf
  refine W.i (fun hb => ?_) fun hb => ?_
  · obtain ⟨c1, fne⟩ := k3 hb
    refine W.b (pickP_tot (xs := free) k1 fne (by omega)) fun r ⟨d1, d2⟩ => ?_
    have rr := mem r.1 d2
    walk_at "wg"
    walk_at "wg"
    refine W.s ⟨⟨d1, ?_, forS_snoc i3 (held_in (by omega)), ?_, ?_, ?_, ?_, nest_snoc i8 i3 (.inl ⟨rfl, rr.2.2⟩)⟩, ?_⟩
    · show 0 ≤ left - 1
      omega
    · show (steps ++ [_]).length + 2 * (left - 1).toNat + (stack ++ [r.1]).length ≤ B
      rw [List.length_append, List.length_append]
      simp
      omega
    · show 1 ≤ (steps ++ [_]).length + (left - 1).toNat
      simp
      omega
    · intro x hx
      rcases List.mem_append.mp hx with z | z
      · exact i5 x z
      · rw [List.mem_singleton] at z
        subst z
        exact ⟨.inl rfl, rr.1, rr.2.1⟩
    · intro x hx
      rcases List.mem_append.mp hx with z | z
      · exact i6 x z
      · rw [List.mem_singleton] at z
        subst z
        exact ⟨rr.1, rr.2.1⟩
    · show 2 * (left - 1).toNat + (stack ++ [r.1]).length < 2 * left.toNat + stack.length
      rw [List.length_append]
      simp
      omega
  · have ne := k2 hb
    have lp : 1 ≤ stack.length := List.length_pos_iff.mpr ne
    obtain ⟨c, hc2⟩ : ∃ c, stack.getLast? = some c := ⟨_, List.getLast?_eq_some_getLast ne⟩
    refine W.e hc2 ?_
    walk_at "wg"
    refine W.s ⟨⟨k1, i2, forS_snoc i3 (held_out hc2), ?_, ?_, ?_, fun r hr => i6 r (List.dropLast_subset _ hr), nest_snoc i8 i3 (.inr ⟨rfl, hc2⟩)⟩, ?_⟩
    · show (steps ++ [_]).length + 2 * left.toNat + stack.dropLast.length ≤ B
      rw [List.length_append, List.length_dropLast]
      simp
      omega
    · show 1 ≤ (steps ++ [_]).length + left.toNat
      simp
      omega
    · intro x hx
      rcases List.mem_append.mp hx with z | z
      · exact i5 x z
      · rw [List.mem_singleton] at z
        subst z
        exact ⟨.inr rfl, i6 c (List.mem_of_getLast? hc2)⟩
    · show 2 * left.toNat + stack.dropLast.length < 2 * left.toNat + stack.length
      rw [List.length_dropLast]
      omega
theorem way_wB {B : Nat} (hB : B ≤ 24) {dk : Pot} {rooms size : Int} {sm : List Int} (h : dk.ok) (hs : ∀ r ∈ sm, 0 ≤ r ∧ r < rooms) (hn : sm ≠ []) (hl : sm.length ≤ 6) (h3 : size ≤ (B : Int)) (h4 : 2 ≤ size) : W (l_way_m dk sm size) fun p => p.2.ok ∧ GoodW rooms p.1 ∧ p.1.length ≤ B := by
  unfold l_way_m
  refine W.b (drawP_tot (n := size / 2) h (by omega) (by omega)) fun p ⟨k1, k2, k3⟩ => ?_
  refine W.b (W.wh (winv B rooms) wmu ⟨k1, ?_, rfl, ?_, ?_, fun x hx => (nomatch hx), fun x hx => (nomatch hx), fun i s hs => by simp at hs⟩ ?_ fun s i hc => way_step hB hs hn hl s i hc) fun s ⟨⟨j1, j2, j3, j4, j7, j5, j6, j8⟩, hc⟩ => ?_
  · show 0 ≤ 1 + p.1; omega
  · show 0 + 2 * (1 + p.1).toNat + 0 ≤ B; omega
  · show 1 ≤ 0 + (1 + p.1).toNat; omega
  · show 2 * (1 + p.1).toNat + 0 < 100000; omega
  · unfold l_way_L1c at hc
    simp at hc
    obtain ⟨c1, c2⟩ := hc
    rw [c2] at j3
    refine W.s ⟨j1, ⟨?_, by show s.2.2.1.length ≤ 40; omega, j5, j3, j8⟩, by show s.2.2.1.length ≤ B; omega⟩
    show 1 ≤ s.2.2.1.length
    omega
theorem two_perm {α : Type} {l : List α} {a b : α} (h : l.Perm [a, b]) : two l = some (a, b) ∨ two l = some (b, a) := by
  have hl := h.length_eq
  cases l with
  | nil => simp at hl
  | cons x l =>
    cases l with
    | nil => simp at hl
    | cons y l =>
      cases l with
      | cons z l => simp at hl
      | nil =>
        have hx : x ∈ [a, b] := h.subset (by simp)
        simp only [List.mem_cons, List.not_mem_nil, or_false] at hx
        rcases hx with e | e
        · subst e
          have h2 := h.cons_inv
          have : y ∈ [b] := h2.subset (by simp)
          simp only [List.mem_singleton] at this
          subst this
          exact .inl rfl
        · subst e
          have h2 := (h.trans (List.Perm.swap x a [])).cons_inv
          have : y ∈ [a] := h2.subset (by simp)
          simp only [List.mem_singleton] at this
          subst this
          exact .inr rfl
/-- a pair of words that two hands may have to one another -/
def OkP (p : Str × Str) : Prop := okWord p.1 ∧ okWord p.2 ∧ (p.1 = "even" ↔ p.2 = "even")
theorem door_w {dk : Pot} {many : Int} {words : List (Str × Str)} (h : dk.ok) (h1 : 1 ≤ many) (h5 : many ≤ 5) (hw : words ≠ []) (hl : words.length ≤ 100) (ho : ∀ p ∈ words, OkP p) : W (l_door_m dk many words) fun p => p.2.ok ∧ GoodD many.toNat p.1 := by
  have lr : (rng 0 many).length = many.toNat := by rw [rng_length]; omega
  unfold l_door_m
  walk_at "wg"
  walk_at "wg"
  walk_at "wg"
  walk_at "wg"
  walk_at "wg"
  refine W.e rfl ?_
  walk_at "wg"
  walk_at "wg"
  have R0 : Rect many.toNat ((rng 0 many).map fun _ => List.replicate many.toNat ("-" : Str)) := by
    refine ⟨by rw [List.length_map, lr], fun r hr => ?_⟩
    obtain ⟨_, _, rfl⟩ := List.mem_map.mp hr
    exact ⟨List.length_replicate, fun w hw => .inl (List.eq_of_mem_replicate hw)⟩
  have S0 : SymE ((rng 0 many).map fun _ => List.replicate many.toNat ("-" : Str)) := by
    intro i j e
    exfalso
    unfold cellR List.getD at e
    rw [List.getElem?_map] at e
    cases q : (rng 0 many)[i]? with
    | none => rw [q] at e; change (Str.ofString "") = Str.ofString "even" at e; revert e; decide
    | some k =>
      rw [q] at e
      change ((List.replicate many.toNat (Str.ofString "-"))[j]?).getD _ = _ at e
      rw [List.getElem?_replicate] at e
      split at e
      · change (Str.ofString "-") = Str.ofString "even" at e; revert e; decide
      · change (Str.ofString "") = Str.ofString "even" at e; revert e; decide
  refine W.b (W.forS1 (fun s => s.1.ok ∧ Rect many.toNat s.2 ∧ SymE s.2) ⟨h, R0, S0⟩ fun x hx s ⟨i1, i2, i3⟩ => ?_) fun s ⟨i1, i2, i3⟩ => ?_
  · have mx := mem_rng hx
    unfold l_door_L1
    walk_at "wg"
    walk_at "wg"
    walk_at "wg"
    walk_at "wg"
    refine W.b (W.forS1 (fun s => s.1.ok ∧ Rect many.toNat s.2 ∧ SymE s.2) ⟨i1, i2, i3⟩ fun y hy s ⟨j1, j2, j4⟩ => ?_) fun q ⟨j1, j2, j3⟩ => W.s ⟨j1, j2, j3⟩
    have my := mem_rng hy
    unfold l_door_L2
    refine W.b (pickP_tot j1 (List.length_pos_iff.mpr hw) (by omega)) fun p ⟨p1, p2⟩ => ?_
    refine W.b (mixP_w p1 (by simp)) fun m ⟨m1, m2⟩ => ?_
    obtain ⟨o1, o2, o3⟩ := ho _ p2
    have ok : ∃ t, two m.1 = some t ∧ okWord t.1 ∧ okWord t.2 ∧ (t.1 = "even" ↔ t.2 = "even") := by
      rcases two_perm m2 with e | e
      · exact ⟨_, e, o1, o2, o3⟩
      · exact ⟨_, e, o2, o1, o3.symm⟩
    obtain ⟨t2, et2, ok⟩ := ok
    refine W.e et2 ?_
    obtain ⟨t, et, j3⟩ := setT_W j2 (by omega) (by omega) (by omega) (by omega) ok.1 (i := x) (j := y)
    refine W.e et ?_
    obtain ⟨u, eu, j5⟩ := setT_W j3 (by omega) (by omega) (by omega) (by omega) ok.2.1 (i := y) (j := x)
    refine W.e eu (W.s ⟨m1, j5, fun a b hab => ?_⟩)
    have c1 := setT_cell j2 (by omega) (by omega) (by omega) (by omega) et
    have c2 := setT_cell j3 (by omega) (by omega) (by omega) (by omega) eu
    change cellR u a b = _ at hab
    show cellR u b a = _
    rw [c2, c1] at hab ⊢
    have ne : x.toNat ≠ y.toNat := by omega
    by_cases h1 : a = y.toNat ∧ b = x.toNat
    · rw [if_pos h1] at hab
      rw [if_neg (by omega), if_pos ⟨h1.2, h1.1⟩]
      exact ok.2.2.mpr hab
    · rw [if_neg h1] at hab
      by_cases h2 : a = x.toNat ∧ b = y.toNat
      · rw [if_pos h2] at hab
        rw [if_pos ⟨h2.2, h2.1⟩]
        exact ok.2.2.mp hab
      · rw [if_neg h2] at hab
        rw [if_neg (by omega), if_neg (by omega)]
        exact j4 a b hab
  · have R2 := i2.1
    walk_at "wg"
    refine W.e lcM_mapU ?_
    rw [List.map_id']
    walk_at "wg"
    walk_at "wg"
    walk_at "wg"
    refine W.b (W.lcM (fun d => d.ok) (fun (x : Int) (y : List Int) => y.Perm ((rng 0 many).filter fun j => !decide (j = x))) i1 fun x hx d hd => ?_) fun q ⟨q1, q2, q3⟩ => W.s ⟨q1, i2, i3, by show q.2.length = _; rw [q2, lr], fun k o z => ?_⟩
    · walk_at "wg"
      walk_at "wg"
      walk_at "wg"
      refine W.e (lcM_filterU (g := fun x => x)) ?_
      simp only [List.map_id']
      exact W.b (mixP_w hd (Nat.le_trans (List.length_filter_le _ _) (by omega))) fun m ⟨m1, m2⟩ => W.s ⟨m1, _, rfl, m2⟩
    · have z : q.2[k]? = some o := z
      have hk : k < many.toNat := by
        have := (List.getElem?_eq_some_iff.mp z).1
        omega
      have hr : (rng 0 many)[k]? = some (k : Int) := by
        unfold rng
        rw [List.getElem?_map, List.getElem?_range (by omega)]
        simp
      have := q3 k _ o hr z
      unfold others
      rw [show ((many.toNat : Nat) : Int) = many by omega]
      exact this
theorem words_w {dk : Pot} (h : dk.ok) : W (l_words_m dk) fun p => p.2.ok ∧ p.1 ≠ [] ∧ p.1.length ≤ 100 ∧ ∀ w ∈ p.1, OkP w := by
  unfold l_words_m
  refine W.g (by decide +kernel) ?_
  refine W.b (pickP_tot h (by decide) (by decide)) fun p ⟨p1, p2⟩ => W.s ⟨p1, ?_⟩
  have all : ∀ l ∈ ([([(("even" : Str), ("even" : Str)), (("stand" : Str), ("bow" : Str)), (("stand" : Str), ("stand" : Str)), (("bow" : Str), ("bow" : Str))] : List (Str × Str))]), ∀ w ∈ l, OkP w := by
    intro l hl w hw
    simp only [List.mem_cons, List.not_mem_nil, or_false] at hl
    subst hl
    unfold OkP okWord
    simp only [List.mem_cons, List.not_mem_nil, or_false] at hw
    rcases hw with e | e | e | e <;> rw [e] <;> refine ⟨by simp, by simp, by decide⟩
  have sub : ∀ l ∈ p.1 :: [], l ≠ [] ∧ l.length ≤ 100 ∧ ∀ w ∈ l, w ∈ ([(("even" : Str), ("even" : Str)), (("stand" : Str), ("bow" : Str)), (("stand" : Str), ("stand" : Str)), (("bow" : Str), ("bow" : Str))] : List (Str × Str)) := by
    intro l hl
    rw [List.mem_singleton] at hl
    subst hl
    simp only [List.mem_cons, List.not_mem_nil, or_false] at p2
    rcases p2 with e | e | e | e | e | e | e <;> rw [e] <;> refine ⟨by decide +kernel, by decide +kernel, by decide +kernel⟩
  obtain ⟨a, b, c⟩ := sub p.1 (by simp)
  exact ⟨a, b, fun w hw => all _ (by simp) w (c w hw)⟩
theorem house_w {dk : Pot} {many rooms size doors : Int} (h : dk.ok) (h1 : 1 ≤ many) (h5 : many ≤ 5) (r1 : 1 ≤ rooms) (r6 : rooms ≤ 6) (m1 : 2 ≤ size) (m2 : size ≤ 24) : W (l_house_m dk many rooms size doors) fun p => p.2.ok ∧ GoodH many rooms p.1 ∧ ∀ w ∈ p.1.2, w.length ≤ 24 := by
  have lr : (rng 0 rooms).length = rooms.toNat := by rw [rng_length]; omega
  have lh : (rng 0 many).length = many.toNat := by rw [rng_length]; omega
  unfold l_house_m
  walk_at "wg"
  walk_at "wg"
  refine W.b (W.forS (fun zs s => s.1.ok ∧ s.2.length = zs.length ∧ ∀ o ∈ s.2, ∀ d, o = some d → GoodD many.toNat d) ⟨h, rfl, fun o ho => nomatch ho⟩ fun zs x s ⟨r, e⟩ ⟨i1, i2, i3⟩ => ?_) fun s ⟨i1, i2, i3⟩ => ?_
  · have ln := congrArg List.length e
    rw [lr] at ln
    simp at ln
    unfold l_house_L1
    refine W.b (drawP_tot (n := 10) i1 (by omega) (by omega)) fun p ⟨p1, _, _⟩ => ?_
    refine W.b (Q := fun q : Option Door × Pot => q.2.ok ∧ ∀ d, q.1 = some d → GoodD many.toNat d) (W.i (fun _ => ?_) fun _ => W.s ⟨p1, fun d z => nomatch z⟩) fun q ⟨q1, q2⟩ => ?_
    · exact W.b (words_w p1) fun p ⟨p1, p2, p3, p4⟩ => W.b (door_w p1 h1 h5 p2 p3 p4) fun p ⟨p1, p2⟩ => W.s ⟨p1, fun d z => by cases z; exact p2⟩
    walk_at "wg"
    refine W.s ⟨q1, by simp [i2], fun o ho d hd => ?_⟩
    rcases List.mem_append.mp ho with z | z
    · exact i3 o z d hd
    · rw [List.mem_singleton] at z
      subst z
      exact q2 d hd
  · walk_at "wg"
    walk_at "wg"
    walk_at "wg"
    have hr : rng 0 rooms ≠ [] := fun z => by rw [z] at lr; simp at lr; omega
    refine W.b (lcM_ex (fun d => d.ok) (fun w => GoodW rooms w ∧ w.length ≤ 24) (fun x s _ is => ?_) i1) fun q ⟨q1, q2, q3⟩ => W.s ⟨q1, ⟨h1, h5, r1, r6, ?_, ?_, i3, fun w hw => (q3 w hw).1⟩, fun w hw => (q3 w hw).2⟩
    · walk_at "wg"
      walk_at "wg"
      exact W.b (way_wB (B := 24) (Nat.le_refl _) is (fun r hr => mem_rng hr) hr (by omega) m2 m1) fun p ⟨p1, p2, p3⟩ => W.s ⟨p1, _, rfl, p2, p3⟩
    · show ((s.2.length : Nat) : Int) = rooms
      rw [i2, lr]; omega
    · show ((q.2.length : Nat) : Int) = many
      rw [q2, lh]; omega
end LW


set_option maxHeartbeats 1000000
namespace LW
open PySem L2 RL
/-! ### plain: rows that grow, gone through in any order -/
theorem nodup_len {α : Type} [DecidableEq α] : ∀ {l m : List α}, l.Nodup → (∀ x ∈ l, x ∈ m) → l.length ≤ m.length
  | [], m, _, _ => Nat.zero_le _
  | a :: t, m, h, s => by
    have ha := s a (by simp)
    rw [List.nodup_cons] at h
    have z := nodup_len (l := t) (m := m.erase a) h.2 fun x hx => (List.mem_erase_of_ne (fun e => h.1 (by rw [← e]; exact hx))).mpr (s x (by simp [hx]))
    rw [List.length_erase_of_mem ha] at z
    have := List.length_pos_of_mem ha
    simp
    omega
section
variable {α : Type} (ext : List α → List (List α)) (cl : List α → Bool)
/-- the closed rows that come of a row -/
def comeK : Nat → List α → List (List α)
  | 0, r => if cl r = true then [r] else []
  | k + 1, r => (if cl r = true then [r] else []) ++ (ext r).flatMap (comeK k)
/-- how many rows come of a row -/
def cntK : Nat → List α → Nat
  | 0, _ => 1
  | k + 1, r => 1 + ((ext r).map (cntK k)).sum
variable (N : Nat)
def come (r : List α) : List (List α) := comeK ext cl (N - r.length) r
def cnt (r : List α) : Nat := cntK ext (N - r.length) r
structure Grow (Ok : List α → Prop) : Prop where
  len : ∀ r, Ok r → r.length ≤ N
  up : ∀ r, Ok r → ∀ s ∈ ext r, Ok s ∧ s.length = r.length + 1
variable {ext cl N} {Ok : List α → Prop} (g : Grow ext N Ok)
include g
theorem come_eq {r : List α} (h : Ok r) : come ext cl N r = (if cl r = true then [r] else []) ++ (ext r).flatMap (come ext cl N) := by
  unfold come
  cases q : N - r.length with
  | zero =>
    have e : ext r = [] := by
      cases q2 : ext r with
      | nil => rfl
      | cons s l =>
        have u := g.up r h s (by rw [q2]; simp)
        have := g.len s u.1
        omega
    rw [e]
    show (if cl r = true then [r] else []) = _ ++ []
    rw [List.append_nil]
  | succ k =>
    show _ ++ (ext r).flatMap (comeK ext cl k) = _
    congr 1
    have : ∀ l : List (List α), (∀ s ∈ l, s ∈ ext r) → l.flatMap (comeK ext cl k) = l.flatMap fun r => comeK ext cl (N - r.length) r := by
      intro l hl
      induction l with
      | nil => rfl
      | cons s l ih =>
        have u := g.up r h s (hl s (by simp))
        rw [List.flatMap_cons, List.flatMap_cons, ih fun x hx => hl x (by simp [hx])]
        rw [show N - s.length = k by omega]
    exact this _ fun s hs => hs
theorem cnt_eq {r : List α} (h : Ok r) : cnt ext N r = 1 + ((ext r).map (cnt ext N)).sum := by
  unfold cnt
  cases q : N - r.length with
  | zero =>
    have e : ext r = [] := by
      cases q2 : ext r with
      | nil => rfl
      | cons s l =>
        have u := g.up r h s (by rw [q2]; simp)
        have := g.len s u.1
        omega
    rw [e]
    rfl
  | succ k =>
    show 1 + ((ext r).map (cntK ext k)).sum = _
    congr 2
    apply List.map_congr_left
    intro s hs
    have u := g.up r h s hs
    rw [show N - s.length = k by omega]
omit g in
theorem cnt_pos (r : List α) : 1 ≤ cnt ext N r := by
  unfold cnt
  cases N - r.length with
  | zero => exact Nat.le_refl 1
  | succ k => show 1 ≤ 1 + _; omega
omit g in
theorem sum_len (l : List (List α)) : l.length ≤ (l.map (cnt ext N)).sum := by
  induction l with
  | nil => simp
  | cons a l ih =>
    have := cnt_pos (ext := ext) (N := N) a
    simp
    omega
/-- how many at most, if each row has so many longer ones -/
theorem cntK_le {m : Nat} (hm : ∀ r, Ok r → (ext r).length ≤ m) : ∀ (k : Nat) (r : List α), Ok r → cntK ext k r ≤ (m + 1) ^ k * 2 - 1
  | 0, r, h => by show 1 ≤ (m + 1) ^ 0 * 2 - 1; simp
  | k + 1, r, h => by
    show 1 + ((ext r).map (cntK ext k)).sum ≤ _
    have hb : ∀ l : List (List α), (∀ s ∈ l, s ∈ ext r) → (l.map (cntK ext k)).sum ≤ l.length * ((m + 1) ^ k * 2 - 1) := by
      intro l hl
      induction l with
      | nil => simp
      | cons s l ih =>
        have u := g.up r h s (hl s (by simp))
        have := cntK_le hm k s u.1
        have ih := ih fun x hx => hl x (by simp [hx])
        rw [List.map_cons, List.sum_cons, List.length_cons, Nat.add_mul]
        omega
    have z := hb (ext r) fun s hs => hs
    have y : (ext r).length * ((m + 1) ^ k * 2 - 1) ≤ m * ((m + 1) ^ k * 2 - 1) := Nat.mul_le_mul_right _ (hm r h)
    have p : 1 ≤ (m + 1) ^ k := Nat.one_le_pow _ _ (by omega)
    have e : (m + 1) ^ (k + 1) * 2 = m * ((m + 1) ^ k * 2) + (m + 1) ^ k * 2 := by rw [Nat.pow_succ, Nat.mul_comm ((m + 1) ^ k) (m + 1), Nat.mul_assoc, Nat.add_mul, Nat.one_mul]
    have f : m * ((m + 1) ^ k * 2 - 1) ≤ m * ((m + 1) ^ k * 2) := Nat.mul_le_mul_left _ (by omega)
    have f2 : m * ((m + 1) ^ k * 2 - 1) + 1 ≤ m * ((m + 1) ^ k * 2) + (m + 1) ^ k * 2 - 1 := by omega
    omega
omit g in
theorem come_len' : ∀ (k : Nat) (r : List α), (comeK ext cl k r).length ≤ cntK ext k r
  | 0, r => by
    show (if cl r = true then [r] else []).length ≤ 1
    split <;> simp
  | k + 1, r => by
    show ((if cl r = true then [r] else []) ++ (ext r).flatMap (comeK ext cl k)).length ≤ 1 + _
    have : ∀ l : List (List α), (l.flatMap (comeK ext cl k)).length ≤ (l.map (cntK ext k)).sum := by
      intro l
      induction l with
      | nil => simp
      | cons s l ih =>
        have := come_len' k s
        rw [List.flatMap_cons, List.length_append, List.map_cons, List.sum_cons]
        omega
    have := this (ext r)
    rw [List.length_append]
    split <;> simp only [List.length_cons, List.length_nil] <;> omega
omit g in
theorem come_len (r : List α) : (come ext cl N r).length ≤ cnt ext N r := come_len' _ r
omit g in
theorem comes_len (l : List (List α)) : (l.flatMap (come ext cl N)).length ≤ (l.map (cnt ext N)).sum := by
  induction l with
  | nil => simp
  | cons s l ih =>
    have := come_len (ext := ext) (cl := cl) (N := N) s
    rw [List.flatMap_cons, List.length_append, List.map_cons, List.sum_cons]
    omega
/-- all of one length, then the longer ones -/
theorem bfs_w {c : List (List α) × List (List α) → Bool} {f : List (List α) × List (List α) → Option (List (List α) × List (List α))} {B n : Nat}
    (hc : ∀ s, c s = !s.2.isEmpty) (st : ∀ fd ws, (∀ r ∈ ws, Ok r) → fd.length + ws.length ≤ B → (ws.flatMap ext).length ≤ B → f (fd, ws) = some (fd ++ ws.filter cl, ws.flatMap ext))
    {fd0 ws0 : List (List α)} (h0 : ∀ r ∈ ws0, Ok r) (hf : fd0.length + 2 * (ws0.map (cnt ext N)).sum ≤ B) (hn : B < n) :
    W (whS c f n (fd0, ws0)) fun s => s.2 = [] ∧ s.1.Perm (fd0 ++ ws0.flatMap (come ext cl N)) := by
  have key : ∀ l : List (List α), (∀ r ∈ l, Ok r) → (l.map (cnt ext N)).sum = l.length + ((l.flatMap ext).map (cnt ext N)).sum := by
    intro l hl
    induction l with
    | nil => rfl
    | cons a l ih =>
      rw [List.map_cons, List.sum_cons, cnt_eq g (hl a (by simp)), ih fun r hr => hl r (by simp [hr]), List.flatMap_cons, List.map_append, List.sum_append, List.length_cons]
      omega
  have pm : ∀ l : List (List α), (∀ r ∈ l, Ok r) → (l.filter cl ++ (l.flatMap ext).flatMap (come ext cl N)).Perm (l.flatMap (come ext cl N)) := by
    intro l hl
    induction l with
    | nil => exact .refl _
    | cons a l ih =>
      have ih := ih fun r hr => hl r (by simp [hr])
      rw [List.flatMap_cons, List.flatMap_cons, come_eq g (hl a (by simp)), List.flatMap_append]
      have e : (a :: l).filter cl = (if cl a = true then [a] else []) ++ l.filter cl := by
        cases q : cl a with
        | true => rw [List.filter_cons_of_pos q]; rfl
        | false => rw [List.filter_cons_of_neg (by simp [q])]; rfl
      rw [e, List.append_assoc, List.append_assoc]
      refine List.Perm.append_left _ ?_
      rw [← List.append_assoc]
      exact (List.Perm.append_right _ List.perm_append_comm).trans (by rw [List.append_assoc]; exact List.Perm.append_left _ ih)
  refine W.m (W.wh (fun s => (s.1 ++ s.2.flatMap (come ext cl N)).Perm (fd0 ++ ws0.flatMap (come ext cl N)) ∧ (∀ r ∈ s.2, Ok r) ∧ (s.2.map (cnt ext N)).sum ≤ (ws0.map (cnt ext N)).sum) (fun s => (s.2.map (cnt ext N)).sum) ⟨.refl _, h0, Nat.le_refl _⟩ (by show (ws0.map (cnt ext N)).sum < n; omega) fun s ⟨i1, i2, i3⟩ hc' => ?_) fun s ⟨⟨i1, i2, i3⟩, hc'⟩ => ?_
  · obtain ⟨fd, ws⟩ := s
    rw [hc] at hc'
    have ne : ws ≠ [] := fun z => by
      simp only at hc'
      rw [z] at hc'
      cases hc'
    have lp := List.length_pos_iff.mpr ne
    have k := key ws i2
    have l1 := i1.length_eq
    have l2 := comes_len (ext := ext) (cl := cl) (N := N) ws0
    have l3 := sum_len (ext := ext) (N := N) (ws.flatMap ext)
    simp only [List.length_append] at l1
    simp only at i3 i2
    refine W.of (st fd ws i2 (by omega) (by omega)) ⟨⟨?_, ?_, ?_⟩, ?_⟩
    · refine List.Perm.trans ?_ i1
      show ((fd ++ ws.filter cl) ++ (ws.flatMap ext).flatMap (come ext cl N)).Perm (fd ++ ws.flatMap (come ext cl N))
      rw [List.append_assoc]
      exact List.Perm.append_left fd (pm ws i2)
    · intro s hs
      obtain ⟨r, hr, hs⟩ := List.mem_flatMap.mp hs
      exact (g.up r (i2 r hr) s hs).1
    · show ((ws.flatMap ext).map (cnt ext N)).sum ≤ _
      omega
    · show ((ws.flatMap ext).map (cnt ext N)).sum < (ws.map (cnt ext N)).sum
      omega
  · rw [hc] at hc'
    have e : s.2 = [] := by
      cases q : s.2 with
      | nil => rfl
      | cons a b => rw [q] at hc'; cases hc'
    refine ⟨e, ?_⟩
    rw [e] at i1
    simpa using i1
end
end LW


set_option maxHeartbeats 1000000
namespace LW
open PySem L2 RL
/-! ### plain: what repr shows of a drawn house; steps sought in ways -/
theorem others_len : ∀ (n : Fin 6) (k : Fin 6), k.1 < n.1 → (others n.1 k.1).length + 1 = n.1 := by decide
theorem GoodD.order {n : Nat} {d : Door} (g : GoodD n d) (n5 : n ≤ 5) {k : Nat} (hk : k < n) : ∃ o, d.2[k]? = some o ∧ o.length + 1 = n ∧ ∀ j ∈ o, 0 ≤ j ∧ j < n ∧ j ≠ k := by
  have l : k < d.2.length := by rw [g.ol]; exact hk
  refine ⟨_, List.getElem?_eq_getElem l, ?_, fun j hj => ?_⟩
  · rw [(g.ord k _ (List.getElem?_eq_getElem l)).length_eq]
    exact others_len ⟨n, by omega⟩ ⟨k, by omega⟩ hk
  · have z := (g.ord k _ (List.getElem?_eq_getElem l)).mem_iff.mp hj
    unfold others at z
    obtain ⟨z1, z2⟩ := List.mem_filter.mp z
    have := mem_rng z1
    simp at z2
    omega
/-- all that is known of a hand at a door -/
abbrev encH : House → D := eT2 (eTL (eO (eT2 (eTL (eTL D.str)) (eTL (eTL D.int))))) (eTL (eTL (eT2 D.str D.int)))
theorem fn_word {k : Nat} {w : Str} (h : okWord w) : FN k 5 (.str w) := by
  rcases h with e | e | e | e <;> rw [e] <;> exact fn_str (by decide +kernel) (by decide)
section
variable {hs rs : Int} {h : House} {d : Door}
theorem fn_way {way : Way} (g : GoodW rs way) (r6 : rs ≤ 6) : FN 2 360 (eTL (eT2 D.str D.int) way) := by
  refine fn_mono (fn_tup (k := 1) (n := 8) (m := 40) (fn_map fun x hx => ?_) (by rw [List.length_map]; exact g.len)) (by omega) (by omega)
  obtain ⟨h1, h2, h3⟩ := g.all x hx
  refine fn_mono (fn_tup (k := 0) (n := 3) (m := 2) (fn_two ?_ (fn_int (by omega))) (by simp)) (by omega) (by omega)
  rcases h1 with e | e <;> rw [e] <;> exact fn_str (by decide +kernel) (by decide)
theorem fn_door {n : Nat} (n5 : n ≤ 5) (g : GoodD n d) : FN 3 312 (eT2 (eTL (eTL D.str)) (eTL (eTL D.int)) d) := by
  refine fn_mono (fn_tup (k := 2) (n := 155) (m := 2) (fn_two ?_ ?_) (by simp)) (by omega) (by omega)
  · refine fn_mono (fn_tup (k := 1) (n := 30) (m := 5) (fn_map fun r hr => ?_) (by rw [List.length_map, g.rect.1]; exact n5)) (by omega) (by omega)
    obtain ⟨r1, r2⟩ := g.rect.2 r hr
    exact fn_mono (fn_tup (k := 0) (n := 5) (m := 5) (fn_map fun w hw => fn_word (r2 w hw)) (by rw [List.length_map, r1]; exact n5)) (by omega) (by omega)
  · refine fn_mono (fn_tup (k := 1) (n := 5) (m := 5) (fn_map fun r hr => ?_) (by rw [List.length_map, g.ol]; exact n5)) (by omega) (by omega)
    obtain ⟨i, hi⟩ := List.getElem?_of_mem hr
    have l := (List.getElem?_eq_some_iff.mp hi).1
    rw [g.ol] at l
    obtain ⟨o, ho, lo, mo⟩ := g.order n5 l
    rw [hi] at ho
    cases ho
    exact fn_mono (fn_tup (k := 0) (n := 0) (m := 5) (fn_map fun j hj => fn_int (by have := mo j hj; omega)) (by rw [List.length_map]; omega)) (by omega) (by omega)
theorem fn_house (g : GoodH hs rs h) : FN 5 3758 (encH h) := by
  have g5 := g.h5
  have r6 := g.r6
  have lr := g.lr
  have lh := g.lh
  refine fn_mono (fn_tup (k := 4) (n := 1878) (m := 2) (fn_two ?_ ?_) (by simp)) (by omega) (by omega)
  · refine fn_mono (fn_tup (k := 3) (n := 312) (m := 6) (fn_map fun o ho => ?_) (by rw [List.length_map]; omega)) (by omega) (by omega)
    cases o with
    | none => exact fn_non
    | some d => exact fn_door (by omega) (g.dr _ ho d rfl)
  · exact fn_mono (fn_tup (k := 2) (n := 360) (m := 5) (fn_map fun w hw => fn_way (g.wy w hw) r6) (by rw [List.length_map]; omega)) (by omega) (by omega)
end
theorem step_okD {s : Str × Int} (h : s.1 = "in" ∨ s.1 = "out") : (eStep s).ok = true := by
  unfold eStep eT2 D.ok oks oks oks
  have : (D.str s.1).ok = true := by
    unfold D.ok
    rcases h with e | e <;> rw [e] <;> decide +kernel
  rw [this]
  unfold D.ok
  rfl
theorem dep_stepD {s : Str × Int} : (eStep s).p.depth ≤ 1 := by
  simp only [eStep, eT2, D.p, ps, PyData.depth, PyData.depthAll]
  omega
theorem in_wayD {rs : Int} {w : Way} (g : GoodW rs w) {r : Int} : ∃ t, inDD (eStep (("in" : Str), r)) (w.map eStep) = some t := by
  unfold inDD
  have h1 := step_okD (s := (("in" : Str), r)) (.inl rfl)
  have h2 : oks (w.map eStep) = true := oks_map _ fun s hs => step_okD (g.all s hs).1
  have h3 := dep_stepD (s := (("in" : Str), r))
  rw [if_pos (by simp only [h1, h2, Bool.and_self, Bool.true_and, decide_eq_true_eq]; exact Nat.le_trans (Nat.min_le_right _ _) (by omega))]
  exact ⟨_, rfl⟩
theorem cell_at {n : Nat} {d : Door} (g : GoodD n d) {i j : Int} (i0 : 0 ≤ i) (i1 : i < n) (j0 : 0 ≤ j) (j1 : j < n) : ∃ row, atI d.1 i = some row ∧ atI row j = some (cellR d.1 i.toNat j.toNat) := by
  have l1 : i < d.1.length := by rw [g.rect.1]; exact i1
  refine ⟨_, atI_get i0 l1, ?_⟩
  have r := g.rect.2 _ (List.getElem_mem (by omega : i.toNat < d.1.length))
  rw [atI_get j0 (by rw [r.1]; exact j1)]
  unfold cellR List.getD
  rw [List.getElem?_eq_getElem (by omega : i.toNat < d.1.length)]
  show _ = some ((d.1[i.toNat][j.toNat]?).getD _)
  rw [List.getElem?_eq_getElem (by rw [r.1]; omega)]
  rfl
/-- sorted of rows of numbers is by what is within alone -/
theorem dataLe_tl : PySem.W.dataLe false (fun b : List Int => (eTL D.int b).p) = fun p q => decide (p ≤ q) := by
  have e : ∀ b : List Int, (eTL D.int b).p = PyData.tuple (b.map .int) := fun b => by
    unfold eTL D.p
    congr 1
    induction b with
    | nil => rfl
    | cons a l ih => rw [List.map_cons, List.map_cons]; unfold ps D.p; rw [ih]
  funext p q
  show (!PySem.W.dataLt (eTL D.int q).p (eTL D.int p).p) = _
  rw [e, e, PySem.W.dataLt_tuple]
  show (!PySem.W.rowLt (q.map .int) (p.map .int)) = _
  rw [PySem.W.dataLt_ints]
  by_cases h : q < p
  · have h' : ¬ p ≤ q := fun r => List.not_lt.mpr r h
    simp [h, h']
  · have h' : p ≤ q := List.not_lt.mp h
    simp [h, h']
theorem srt_perm {l m : List (List Int)} (h : l.Perm m) : srtE (eTL D.int) l = srtE (eTL D.int) m := by
  unfold srtE
  rw [dataLe_tl]
  have tr : ∀ a b c : List Int, decide (a ≤ b) = true → decide (b ≤ c) = true → decide (a ≤ c) = true := fun a b c h1 h2 => decide_eq_true (List.le_trans (of_decide_eq_true h1) (of_decide_eq_true h2))
  have tot : ∀ a b : List Int, (decide (a ≤ b) || decide (b ≤ a)) = true := fun a b => by
    rcases List.le_total a b with z | z
    · simp [z]
    · simp [z]
  refine List.Perm.eq_of_pairwise (le := fun a b => decide (a ≤ b) = true) (fun a b _ _ h1 h2 => List.le_antisymm (of_decide_eq_true h1) (of_decide_eq_true h2)) (List.pairwise_mergeSort tr tot _) (List.pairwise_mergeSort tr tot _) (((List.mergeSort_perm _ _).trans h).trans (List.mergeSort_perm _ _).symm)
theorem srt_mem {l : List (List Int)} {x : List Int} : x ∈ srtE (eTL D.int) l ↔ x ∈ l := by
  unfold srtE
  exact (List.mergeSort_perm _ _).mem_iff
theorem srt_len {l : List (List Int)} : (srtE (eTL D.int) l).length = l.length := by
  unfold srtE
  exact (List.mergeSort_perm _ _).length_eq
end LW


set_option maxHeartbeats 1000000
namespace LW
open PySem L2 RL
/-! ### plain: rings of hands at a door -/
local macro_rules | `(tactic| walk_at "wg") => `(tactic| first
  | refine W.g (by omega) ?_
  | refine W.g (by (first | with_reducible refine bigl ?_ | with_reducible refine big ?_); (try simp only [len_numL, rng_length, List.length_append, List.length_map, List.length_cons, List.length_nil, List.length_replicate, List.length_zip]); omega) ?_)
section
variable {hs rs room : Int} {h : House} {d : Door} {words : List Str} {us : List Int}
def usO (room : Int) (c : Int × Way) : Option Bool := (inDD (eStep (("in" : Str), room)) (c.2.map eStep)).bind fun p => some p
def usersP (h : House) (room : Int) : List Int := ((numL h.2).filter fun c => (usO room c).getD false).map fun c => c.1
theorem us_lc (g : GoodH hs rs h) : lcM (fun (_ : Unit) (c : Int × Way) => ((usO room c).bind fun tq => if tq = true then (some ((), some c.1)) else some ((), none))) () (numL h.2) = some ((), usersP h room) :=
  W.lcP fun c hc => by
    obtain ⟨i, _, hi⟩ := mem_numL hc
    obtain ⟨t, ht⟩ := in_wayD (g.wy _ (List.mem_of_getElem? hi)) (r := room)
    exact ⟨t, by unfold usO; rw [ht] <;> rfl⟩
theorem users_mem (g : GoodH hs rs h) {x : Int} (hx : x ∈ usersP h room) : 0 ≤ x ∧ x < hs := by
  obtain ⟨c, hc, rfl⟩ := List.mem_map.mp hx
  obtain ⟨i, e, hi⟩ := mem_numL (List.mem_filter.mp hc).1
  have := (List.getElem?_eq_some_iff.mp hi).1
  have := g.lh
  omega
theorem numL_fst {α : Type} (l : List α) : (numL l).map (fun c => c.1) = (List.range l.length).map fun i : Nat => (i : Int) := by
  unfold numL
  apply List.ext_getElem
  · simp
  · intro i h1 h2
    simp
theorem users_nodup : (usersP h room).Nodup := by
  unfold usersP
  have s : (((numL h.2).filter fun c => (usO room c).getD false).map fun c => c.1).Sublist ((numL h.2).map fun c => c.1) := List.Sublist.map _ List.filter_sublist
  rw [numL_fst] at s
  refine s.nodup ?_
  exact List.Pairwise.map _ (fun a b (e : a ≠ b) z => e (Int.ofNat_inj.mp z)) List.nodup_range
theorem users_len (g : GoodH hs rs h) : (usersP h room).length ≤ 5 := by
  have s : (usersP h room).length ≤ (numL h.2).length := by
    unfold usersP
    rw [List.length_map]
    exact List.length_filter_le _ _
  rw [len_numL] at s
  have := g.h5
  have := g.lh
  omega
def relB (d : Door) (words : List Str) (i j : Int) : Bool := decide (cellR d.1 i.toNat j.toNat ∈ words)
def extR (us : List Int) (rel : Int → Int → Bool) (r : List Int) : List (List Int) := (us.filter fun x => decide (r.headD 0 < x) && !decide (x ∈ r) && rel (r.getLastD 0) x).map fun x => r ++ [x]
def clR (rel : Int → Int → Bool) (r : List Int) : Bool := decide (1 < (r.length : Int)) && rel (r.getLastD 0) (r.headD 0)
def OkR (us : List Int) (r : List Int) : Prop := r ≠ [] ∧ r.Nodup ∧ ∀ x ∈ r, x ∈ us
theorem grow_R (us : List Int) (rel : Int → Int → Bool) : Grow (extR us rel) us.length (OkR us) where
  len := fun r ⟨_, n, s⟩ => nodup_len n s
  up := fun r ⟨ne, n, s⟩ t ht => by
    unfold extR at ht
    obtain ⟨x, hx, rfl⟩ := List.mem_map.mp ht
    obtain ⟨xu, hx⟩ := List.mem_filter.mp hx
    simp only [Bool.and_eq_true, Bool.not_eq_true', decide_eq_true_eq, decide_eq_false_iff_not] at hx
    refine ⟨⟨by simp, ?_, fun y hy => ?_⟩, by simp⟩
    · rw [List.nodup_append]
      refine ⟨n, by simp, fun a ha b hb e => ?_⟩
      rw [List.mem_singleton] at hb
      exact hx.1.2 (by rw [← hb, ← e]; exact ha)
    · rcases List.mem_append.mp hy with z | z
      · exact s y z
      · rw [List.mem_singleton] at z
        rw [z]; exact xu
theorem ext_le {us : List Int} {rel : Int → Int → Bool} (hu : us.length ≤ 5) (r : List Int) (ok : OkR us r) : (extR us rel r).length ≤ 4 := by
  unfold extR
  rw [List.length_map]
  obtain ⟨ne, _, s⟩ := ok
  obtain ⟨a, l, rfl⟩ := List.exists_cons_of_ne_nil ne
  have hf : ¬ (decide ((a :: l).headD 0 < a) && !decide (a ∈ a :: l) && rel ((a :: l).getLastD 0) a) = true := by simp
  have ha := s a (by simp)
  have z : (us.filter fun x => decide ((a :: l).headD 0 < x) && !decide (x ∈ a :: l) && rel ((a :: l).getLastD 0) x).length < us.length := by
    refine Nat.lt_of_le_of_ne (List.length_filter_le _ _) fun e => ?_
    exact hf (List.length_filter_eq_length_iff.mp e a ha)
  omega
theorem last_ne {r : List Int} (h : r ≠ []) : r.getLast? = some (r.getLastD 0) := by
  cases r with
  | nil => exact absurd rfl h
  | cons a l => rw [List.getLast?_eq_some_getLast (by simp)]; congr 1
theorem lastD_mem {r : List Int} (h : r ≠ []) : r.getLastD 0 ∈ r := List.mem_of_getLast? (last_ne h)
theorem headD_mem {r : List Int} (h : r ≠ []) : r.headD 0 ∈ r := by
  cases r with
  | nil => exact absurd rfl h
  | cons a l => simp
theorem head_at {r : List Int} (h : r ≠ []) : atI r 0 = some (r.headD 0) := by
  cases r with
  | nil => exact absurd rfl h
  | cons a l => exact atI_some (by omega) (by simp)
/-! #### the program's -/
theorem one_cnt {us : List Int} {rel : Int → Int → Bool} (hu : us.length ≤ 5) {x : Int} (hx : x ∈ us) : cnt (extR us rel) us.length [x] ≤ 1250 := by
  have ok : OkR us [x] := ⟨by simp, by simp, fun y hy => by rw [List.mem_singleton] at hy; rw [hy]; exact hx⟩
  have z := cntK_le (grow_R us rel) (m := 4) (fun r ok => ext_le hu r ok) (us.length - 1) [x] ok
  have p : (4 + 1) ^ (us.length - 1) ≤ (4 + 1) ^ 4 := Nat.pow_le_pow_right (by omega) (by omega)
  show cntK (extR us rel) (us.length - 1) [x] ≤ 1250
  omega
def ringT (us : List Int) (rel : Int → Int → Bool) : List (List Int) := us.flatMap fun x => come (extR us rel) (clR rel) us.length [x]
/-! #### the law's -/
theorem lookE_map {β : Type} {us : List Int} {v : Int → β} {x : Int} (hx : x ∈ us) : lookE (us.map fun y => (y, v y)) x = some (v x) := by
  induction us with
  | nil => cases hx
  | cons a l ih =>
    rw [List.map_cons]
    unfold lookE
    by_cases e : a = x
    · rw [if_pos e, e]
    · rw [if_neg e]
      exact ih ((List.mem_cons.mp hx).resolve_left fun z => e z.symm)
theorem lookE_no {β : Type} {us : List Int} {v : Int → β} {x : Int} (hx : x ∉ us) : lookE (us.map fun y => (y, v y)) x = none := by
  induction us with
  | nil => rfl
  | cons a l ih =>
    rw [List.map_cons]
    unfold lookE
    rw [if_neg (fun e => hx (by rw [← e]; simp))]
    exact ih fun z => hx (by simp [z])
def leadsR (us : List Int) (rel : Int → Int → Bool) : List (Int × List Int) := us.map fun x => (x, us.filter fun y => rel x y)
theorem leads_eq (g : GoodH hs rs h) (r0 : 0 ≤ room) (hd : h.1[room.toNat]? = some (some d)) (gd' : GoodD hs.toNat d) : forS (l_hand_rings_L1 h room words (usersP h room)) [] (usersP h room) = some (leadsR (usersP h room) (relB d words)) := by
  have ul := users_len g (room := room)
  have h1 := g.h1
  have nd := users_nodup (h := h) (room := room)
  refine W.eq (W.m (W.forS (fun zs s => s = zs.map fun x => (x, (usersP h room).filter fun y => relB d words x y)) rfl fun zs x s ⟨r, e⟩ i => ?_) fun b hb => hb)
  have hx : x ∈ usersP h room := by rw [e]; simp
  have xr := users_mem g hx
  have lz : zs.length ≤ 5 := by have := congrArg List.length e; simp at this; omega
  subst i
  unfold l_hand_rings_L1
  walk_at "wg"
  refine W.e (W.lcP (o := fun c415 => (atI h.1 room).bind fun p417 => p417.bind fun p418 => (atI p418.1 x).bind fun p419 => (atI p419 c415).bind fun p420 => some (decide (p420 ∈ words))) (g := fun c => c) fun c hc => ?_) ?_
  · have cr := users_mem g hc
    obtain ⟨row, c1, c2⟩ := cell_at gd' xr.1 (by omega) cr.1 (by omega)
    rw [atI_some r0 hd]
    simp only [Option.bind_some, c1, c2]
    exact ⟨_, rfl⟩
  · walk_at "wg"
    refine W.s ?_
    have nx : x ∉ zs := by
      rw [e] at nd
      rw [List.nodup_append] at nd
      exact fun z => nd.2.2 x z x (by simp) rfl
    unfold putE
    rw [lookE_no nx, if_neg (by simp), List.map_append, List.map_cons, List.map_nil]
    congr 3
    rw [List.map_id']
    refine List.filter_congr fun c hc => ?_
    have cr := users_mem g hc
    obtain ⟨row, c1, c2⟩ := cell_at gd' xr.1 (by omega) cr.1 (by omega)
    rw [atI_some r0 hd]
    simp only [Option.bind_some, c1, c2, Option.getD_some]
    rfl
theorem law_L2r {rel : Int → Int → Bool} {us : List Int} {n : Int} (ur : ∀ x ∈ us, 0 ≤ x ∧ x < n) (n5 : n ≤ 5) (ul : us.length ≤ 5) {r : List Int} {fd lg : List (List Int)} (ok : OkR us r) (hf : fd.length ≤ 200000) (hl : lg.length ≤ 200000) :
    l_rings_of_L2 (leadsR us rel) (rng 0 n) (fd, lg) r = some (fd ++ (if clR rel r = true then [r] else []), lg ++ extR us rel r) := W.eq (by
  obtain ⟨ne, nd, s⟩ := ok
  have rl : r.length ≤ 5 := Nat.le_trans (nodup_len nd s) ul
  have hand : ∀ c : Int, 0 ≤ c → c < n → atI (rng 0 n) c = some c := fun c c0 c1 => atI_some c0 (by
    unfold rng
    rw [List.getElem?_map, List.getElem?_range (by omega)]
    show some ((0 : Int) + (c.toNat : Int)) = _
    congr 1
    omega)
  have lk : lookE (leadsR us rel) (r.getLastD 0) = some (us.filter fun y => rel (r.getLastD 0) y) := lookE_map (v := fun x => us.filter fun y => rel x y) (s _ (lastD_mem ne))
  unfold l_rings_of_L2
  walk_at "wg"
  have tk : lcM (fun (t281 : Unit) (c281 : Int) => (atI (rng 0 n) c281).bind fun p283 => some ((), some p283)) () r = some ((), r) := by
    have := lcM_tot (f := fun (t281 : Unit) (c281 : Int) => (atI (rng 0 n) c281).bind fun p283 => some ((), some p283)) (g := fun c => c) (xs := r) fun x hx => by
      have := ur x (s x hx)
      rw [hand x this.1 this.2]
      rfl
    rw [List.map_id'] at this
    exact this
  refine W.e tk ?_
  simp only
  refine W.b (Q := fun b => b = clR rel r) (W.i (fun k1 => ?_) fun k1 => W.s (by unfold clR; rw [k1]; rfl)) fun b hb => ?_
  · refine W.e (head_at ne) (W.e (last_at (last_ne ne)) (W.e lk (W.s ?_)))
    unfold clR
    rw [k1, Bool.true_and]
    have hm := s _ (headD_mem ne)
    cases q : rel (r.getLastD 0) (r.headD 0) with
    | true => exact decide_eq_true (List.mem_filter.mpr ⟨hm, q⟩)
    | false => exact decide_eq_false fun z => by rw [(List.mem_filter.mp z).2] at q; cases q
  subst hb
  refine W.b (Q := fun f => f = fd ++ (if clR rel r = true then [r] else [])) (W.i (fun k => ?_) fun k => W.s (by rw [k]; simp)) fun f hf' => ?_
  · walk_at "wg"
    exact W.s (by rw [k, if_pos rfl])
  subst hf'
  refine W.e (last_at (last_ne ne)) (W.e lk ?_)
  have fl : (us.filter fun y => rel (r.getLastD 0) y).length ≤ 5 := Nat.le_trans (List.length_filter_le _ _) ul
  walk_at "wg"
  refine W.e (W.lcP (o := fun c294 => (atI (rng 0 n) c294).bind fun p298 => (atI r 0).bind fun p299 => some (decide (p299 < p298))) (g := fun c => c) fun c hc => ?_) ?_
  · have := ur c (List.mem_filter.mp hc).1
    rw [hand c this.1 this.2, head_at ne]
    exact ⟨_, rfl⟩
  rw [List.map_id']
  have e1 : ((us.filter fun y => rel (r.getLastD 0) y).filter fun c294 => ((atI (rng 0 n) c294).bind fun p298 => (atI r 0).bind fun p299 => some (decide (p299 < p298))).getD false) = (us.filter fun y => rel (r.getLastD 0) y).filter fun y => decide (r.headD 0 < y) := List.filter_congr fun c hc => by
    have := ur c (List.mem_filter.mp hc).1
    rw [hand c this.1 this.2, head_at ne]
    rfl
  rw [e1]
  have fl2 : ((us.filter fun y => rel (r.getLastD 0) y).filter fun y => decide (r.headD 0 < y)).length ≤ 5 := Nat.le_trans (List.length_filter_le _ _) fl
  walk_at "wg"
  have e2 : lcM (fun (t306 : Unit) (c306 : Int) => ((atI (rng 0 n) c306).bind fun p308 => some (!(decide (p308 ∈ r)))).bind fun tq => if tq = true then ((gd (decide (r.length + ([c306] : List Int).length ≤ sizeLine))).bind fun p309 => some ((), some (r ++ ([c306] : List Int)))) else some ((), none)) () ((us.filter fun y => rel (r.getLastD 0) y).filter fun y => decide (r.headD 0 < y)) = some ((), extR us rel r) := by
    have z := lcM_totF (f := fun (t306 : Unit) (c306 : Int) => ((atI (rng 0 n) c306).bind fun p308 => some (!(decide (p308 ∈ r)))).bind fun tq => if tq = true then ((gd (decide (r.length + ([c306] : List Int).length ≤ sizeLine))).bind fun p309 => some ((), some (r ++ ([c306] : List Int)))) else some ((), none)) (t := fun c => !decide (c ∈ r)) (g := fun c => r ++ [c]) (xs := (us.filter fun y => rel (r.getLastD 0) y).filter fun y => decide (r.headD 0 < y)) fun c hc => W.eq (by
      have := ur c (List.mem_filter.mp (List.mem_filter.mp hc).1).1
      refine W.e (show ((atI (rng 0 n) c).bind fun p308 => some (!(decide (p308 ∈ r)))) = some (!decide (c ∈ r)) by rw [hand c this.1 this.2]; rfl) ?_
      refine W.i (fun k => ?_) fun k => W.s (by rw [k]; rfl)
      walk_at "wg"
      exact W.s (by rw [k, if_pos rfl]))
    rw [z]
    congr 2
    unfold extR
    rw [List.filter_filter, List.filter_filter]
    congr 1
    refine List.filter_congr fun c _ => ?_
    cases decide (r.headD 0 < c) <;> cases decide (c ∈ r) <;> cases rel (r.getLastD 0) c <;> rfl
  refine W.e e2 ?_
  have xl : (extR us rel r).length ≤ 5 := by
    unfold extR
    rw [List.length_map]
    exact Nat.le_trans (List.length_filter_le _ _) ul
  walk_at "wg"
  exact W.s rfl)
theorem law_rows {rel : Int → Int → Bool} {us : List Int} {n : Int} (ur : ∀ x ∈ us, 0 ≤ x ∧ x < n) (n5 : n ≤ 5) (ul : us.length ≤ 5) : ∀ (ws : List (List Int)) (fd lg : List (List Int)), (∀ r ∈ ws, OkR us r) → fd.length + ws.length ≤ 200000 → lg.length + (ws.flatMap (extR us rel)).length ≤ 200000 →
    forS (l_rings_of_L2 (leadsR us rel) (rng 0 n)) (fd, lg) ws = some (fd ++ ws.filter (clR rel), lg ++ ws.flatMap (extR us rel))
  | [], fd, lg, _, _, _ => by simp [forS]
  | r :: ws, fd, lg, h, h1, h2 => by
    rw [List.flatMap_cons, List.length_append] at h2
    rw [List.length_cons] at h1
    unfold forS
    rw [law_L2r ur n5 ul (h r (by simp)) (by omega) (by omega)]
    show forS _ (_, _) ws = _
    rw [law_rows ur n5 ul ws _ _ (fun x hx => h x (by simp [hx])) (by rw [List.length_append]; split <;> simp <;> omega) (by rw [List.length_append]; omega), List.flatMap_cons]
    have e : (r :: ws).filter (clR rel) = (if clR rel r = true then [r] else []) ++ ws.filter (clR rel) := by
      cases q : clR rel r with
      | true => rw [List.filter_cons_of_pos q]; rfl
      | false => rw [List.filter_cons_of_neg (by simp [q])]; rfl
    rw [e, List.append_assoc, List.append_assoc]
theorem law_rings (g : GoodH hs rs h) (r0 : 0 ≤ room) (hd : h.1[room.toNat]? = some (some d)) (gd' : GoodD hs.toNat d) : W (l_hand_rings_m h room words) fun l => ∃ l', l = srtE (eTL D.int) l' ∧ l'.Perm (ringT (usersP h room) (relB d words)) := by
  have ul := users_len g (room := room)
  have h5 := g.h5
  have h1 := g.h1
  have lh := g.lh
  unfold l_hand_rings_m
  walk_at "wg"
  refine W.e (us_lc g) (W.e (leads_eq g r0 hd gd') ?_)
  walk_at "wg"
  walk_at "wg"
  rw [lh]
  unfold l_rings_of_m
  refine W.b (Q := fun p => ∃ l', p.1 = srtE (eTL D.int) l' ∧ l'.Perm (ringT (usersP h room) (relB d words))) ?_ fun p hp => W.s hp
  have ur : ∀ x ∈ usersP h room, 0 ≤ x ∧ x < hs := fun x hx => users_mem g hx
  walk_at "wg"
  refine W.e (lcM_mapU (g := fun c => [c])) ?_
  have ok1 : ∀ r ∈ (usersP h room).map (fun c => [c]), OkR (usersP h room) r := fun r hr => by
    obtain ⟨x, hx, rfl⟩ := List.mem_map.mp hr
    exact ⟨by simp, by simp, fun y hy => by rw [List.mem_singleton] at hy; rw [hy]; exact hx⟩
  have sm : ∀ l : List Int, (∀ x ∈ l, x ∈ usersP h room) → ((l.map fun c => [c]).map (cnt (extR (usersP h room) (relB d words)) (usersP h room).length)).sum ≤ l.length * 1250 := by
    intro l hl
    induction l with
    | nil => simp
    | cons x l ih =>
      have a := one_cnt (rel := relB d words) ul (hl x (by simp))
      have := ih fun y hy => hl y (by simp [hy])
      rw [List.map_cons, List.map_cons, List.sum_cons, List.length_cons, Nat.add_mul]
      omega
  have sm' := sm _ fun x hx => hx
  refine W.b (bfs_w (grow_R (usersP h room) (relB d words)) (cl := clR (relB d words)) (B := 20000) (fun s => rfl) (fun fd ws hw h1 h2 => ?_) (fd0 := []) (ws0 := (usersP h room).map fun c => [c]) ok1 (by simp only [List.length_nil]; omega) (by omega)) fun q ⟨q1, q2⟩ => ?_
  · unfold l_rings_of_L1
    simp only
    rw [law_rows ur h5 ul ws fd [] hw (by omega) (by rw [List.length_nil]; omega)]
    simp
  have q2 : q.1.Perm (ringT (usersP h room) (relB d words)) := by
    rw [List.nil_append, List.flatMap_map] at q2
    exact q2
  refine W.gb (List.all_eq_true.mpr fun r hr => ?_) (W.s ⟨q.1, rfl, q2⟩)
  have gen : ∀ (k : Nat) (r : List Int), r ≠ [] → ∀ t ∈ comeK (extR (usersP h room) (relB d words)) (clR (relB d words)) k r, t ≠ [] := by
    intro k
    induction k with
    | zero =>
      intro r hr t ht
      unfold comeK at ht
      split at ht
      · rw [List.mem_singleton] at ht; rw [ht]; exact hr
      · cases ht
    | succ k ih =>
      intro r hr t ht
      unfold comeK at ht
      rcases List.mem_append.mp ht with z | z
      · split at z
        · rw [List.mem_singleton] at z; rw [z]; exact hr
        · cases z
      · obtain ⟨s, hs, z⟩ := List.mem_flatMap.mp z
        refine ih s ?_ t z
        unfold extR at hs
        obtain ⟨x, _, rfl⟩ := List.mem_map.mp hs
        simp
  obtain ⟨x, _, hr⟩ := List.mem_flatMap.mp (q2.mem_iff.mp hr)
  have := gen _ [x] (by simp) r hr
  cases r with
  | nil => exact absurd rfl this
  | cons a l => rfl
/-- both tell the same -/
def ringsP (h : House) (room : Int) (d : Door) (words : List Str) : List (List Int) := srtE (eTL D.int) (ringT (usersP h room) (relB d words))
theorem law_eq (g : GoodH hs rs h) (r0 : 0 ≤ room) (hd : h.1[room.toNat]? = some (some d)) (gd' : GoodD hs.toNat d) : l_hand_rings_m h room words = some (ringsP h room d words) := W.eq ((law_rings g r0 hd gd').m fun l ⟨l', e, p⟩ => by rw [e]; exact srt_perm p)
/-! #### the law -/
theorem memK_ok {us : List Int} {rel : Int → Int → Bool} : ∀ (k : Nat) (r : List Int), OkR us r → ∀ t ∈ comeK (extR us rel) (clR rel) k r, OkR us t
  | 0, r, hr, t, ht => by
    unfold comeK at ht
    split at ht
    · rw [List.mem_singleton] at ht; rw [ht]; exact hr
    · cases ht
  | k + 1, r, hr, t, ht => by
    unfold comeK at ht
    rcases List.mem_append.mp ht with z | z
    · split at z
      · rw [List.mem_singleton] at z; rw [z]; exact hr
      · cases z
    · obtain ⟨s, hs, z⟩ := List.mem_flatMap.mp z
      exact memK_ok k s ((grow_R us rel).up r hr s hs).1 t z
theorem ringT_ok {us : List Int} {rel : Int → Int → Bool} {t : List Int} (ht : t ∈ ringT us rel) : OkR us t := by
  obtain ⟨x, hx, ht⟩ := List.mem_flatMap.mp ht
  exact memK_ok _ [x] ⟨by simp, by simp, fun y hy => by rw [List.mem_singleton] at hy; rw [hy]; exact hx⟩ t ht
theorem ringT_len {us : List Int} {rel : Int → Int → Bool} (ul : us.length ≤ 5) : (ringT us rel).length ≤ 6250 := by
  have tot : ∀ zs : List Int, (∀ x ∈ zs, x ∈ us) → (zs.flatMap fun x => come (extR us rel) (clR rel) us.length [x]).length ≤ zs.length * 1250 := by
    intro zs hz
    induction zs with
    | nil => simp
    | cons x zs ih =>
      have a := come_len (ext := extR us rel) (cl := clR rel) (N := us.length) [x]
      have b := one_cnt (rel := rel) ul (hz x (by simp))
      have ih := ih fun y hy => hz y (by simp [hy])
      rw [List.flatMap_cons, List.length_append, List.length_cons, Nat.add_mul]
      omega
  have := tot us fun x hx => hx
  unfold ringT
  omega
end
end LW


set_option maxHeartbeats 1000000
namespace LW
open PySem L2 RL
/-! ### plain: events of the hands of a wait ring -/
local macro_rules | `(tactic| walk_at "wg") => `(tactic| first
  | refine W.g (by omega) ?_
  | refine W.g (by (first | with_reducible refine bigl ?_ | with_reducible refine big ?_); (try simp only [len_numL, rng_length, List.length_append, List.length_map, List.length_cons, List.length_nil, List.length_replicate, List.length_zip]); omega) ?_)
theorem rng_mem {lo hi x : Int} : x ∈ rng lo hi ↔ lo ≤ x ∧ x < hi := by
  refine ⟨mem_rng, fun ⟨h1, h2⟩ => ?_⟩
  unfold rng
  refine List.mem_map.mpr ⟨(x - lo).toNat, List.mem_range.mpr (by omega), ?_⟩
  show lo + ((x - lo).toNat : Int) = x
  omega
theorem rng_asc {lo hi : Int} : (rng lo hi).Pairwise (· < ·) := by
  unfold rng
  exact List.Pairwise.map _ (fun a b (h : a < b) => by show lo + (a : Int) < lo + (b : Int); omega) List.pairwise_lt_range
theorem asc_nodup {l : List Int} (h : l.Pairwise (· < ·)) : l.Nodup := h.imp fun {a b} h e => by subst e; omega
theorem asc_eq {l m : List Int} (h1 : l.Pairwise (· < ·)) (h2 : m.Pairwise (· < ·)) (h : ∀ x, x ∈ l ↔ x ∈ m) : l = m :=
  List.Perm.eq_of_pairwise (le := fun a b => a < b) (fun a b _ _ h1 h2 => by omega) h1 h2 ((List.perm_ext_iff_of_nodup (asc_nodup h1) (asc_nodup h2)).mpr h)
theorem insI_asc {x : Int} : ∀ {l : List Int}, l.Pairwise (· ≤ ·) → (insI x l).Pairwise (· ≤ ·)
  | [], _ => by unfold insI; simp
  | y :: l, h => by
    unfold insI
    rw [List.pairwise_cons] at h
    split
    · rw [List.pairwise_cons]
      refine ⟨fun z hz => ?_, List.pairwise_cons.mpr h⟩
      rcases List.mem_cons.mp hz with e | e
      · omega
      · have := h.1 z e; omega
    · rw [List.pairwise_cons]
      refine ⟨fun z hz => ?_, insI_asc h.2⟩
      rcases List.mem_cons.mp (insI_perm.mem_iff.mp hz) with e | e
      · omega
      · exact h.1 z e
theorem srtI_asc : ∀ {l : List Int}, (srtI l).Pairwise (· ≤ ·)
  | [] => by unfold srtI; simp
  | x :: l => by unfold srtI; exact insI_asc srtI_asc
theorem srtI_lt {l : List Int} (h : l.Nodup) : (srtI l).Pairwise (· < ·) := by
  have n : (srtI l).Nodup := (srtI_perm.nodup_iff).mpr h
  have := srtI_asc (l := l)
  exact List.Pairwise.imp₂ (fun {a b} (h1 : a ≤ b) (h2 : a ≠ b) => by omega) this n
theorem idx_some {α : Type} [DecidableEq α] {l : List α} {x : α} (h : x ∈ l) : ∃ k : Nat, idxE l x = some (k : Int) ∧ k < l.length ∧ l[k]? = some x := by
  induction l with
  | nil => cases h
  | cons y l ih =>
    unfold idxE
    by_cases e : y = x
    · rw [if_pos e]
      exact ⟨0, rfl, by simp, by simp [e]⟩
    · rw [if_neg e]
      obtain ⟨k, h1, h2, h3⟩ := ih ((List.mem_cons.mp h).resolve_left fun z => e z.symm)
      refine ⟨k + 1, by rw [h1]; rfl, by simp; omega, by simpa using h3⟩
theorem idx_nodup {l : List Int} (h : l.Nodup) {k : Nat} {x : Int} (hx : l[k]? = some x) : idxE l x = some (k : Int) := by
  obtain ⟨j, h1, h2, h3⟩ := idx_some (List.mem_of_getElem? hx)
  have hk := (List.getElem?_eq_some_iff.mp hx).1
  have : j = k := (List.getElem?_inj h2 h).mp (h3.trans hx.symm)
  rw [h1, this]
section
variable {hs rs room : Int} {h : House} {d : Door} {ring : List Int}
/-- what is even with a hand, ascending -/
def evP (d : Door) (n a : Int) : List Int := (rng 0 n).filter fun j => decide (cellR d.1 a.toNat j.toNat = ("even" : Str))
theorem evens_row {n : Nat} {row : List Str} (hl : row.length = n) : ((numL row).filter fun c => decide (c.2 = ("even" : Str))).map (fun c => c.1) = (rng 0 (n : Int)).filter fun j => decide (row.getD j.toNat "" = ("even" : Str)) := by
  rw [numL_rng (xs := row) ("" : Str), hl]
  rw [List.filter_map, List.map_map]
  have e : ((fun c : Int × Str => c.1) ∘ fun i : Int => (i, row.getD i.toNat (Str.ofString ""))) = id := by funext i; rfl
  rw [e, List.map_id]
  congr 1
theorem evens_eqP (g : GoodH hs rs h) (r0 : 0 ≤ room) (hd : h.1[room.toNat]? = some (some d)) (gd' : GoodD hs.toNat d) {a : Int} (a0 : 0 ≤ a) (a1 : a < hs) : evens_m h room a = some (evP d hs a) := W.eq (by
  have h1 := g.h1
  have h5 := g.h5
  have l1 : a < (d.1.length : Int) := by rw [gd'.rect.1]; omega
  have rr := gd'.rect.2 _ (List.getElem_mem (by omega : a.toNat < d.1.length))
  unfold evens_m
  refine W.e (atI_some r0 hd) (W.i (fun z => by cases z) fun _ => ?_)
  refine W.e (atI_some r0 hd) (W.e rfl (W.e (atI_get a0 l1) ?_))
  have := rr.1
  walk_at "wg"
  refine W.e (lcM_filterU (g := fun c6 : Int × Str => c6.1)) (W.s ?_)
  show ((numL _).filter _).map _ = evP d hs a
  rw [evens_row rr.1]
  unfold evP
  rw [show ((hs.toNat : Nat) : Int) = hs by omega]
  refine List.filter_congr fun j hj => ?_
  unfold cellR
  rw [show d.1.getD a.toNat [] = d.1[a.toNat] by simp [List.getD, (by omega : a.toNat < d.1.length)]])
/-- whom a hand of a ring has behind it -/
def nextOf (ring : List Int) (k : Nat) : Int := if k + 1 < ring.length then ring.getD (k + 1) 0 else ring.getD 0 0
theorem at_nat {α : Type} {l : List α} {k : Nat} (d : α) (h : k < l.length) : atI l (k : Int) = some (l.getD k d) := atI_some (by omega) (by rw [Int.toNat_natCast]; simp [List.getD, h])
theorem next_eq (nd : ring.Nodup) (hl : ring.length ≤ 5) {k : Nat} {a : Int} (hk : ring[k]? = some a) : next_one_m ring a = some (nextOf ring k) := W.eq (by
  have kl := (List.getElem?_eq_some_iff.mp hk).1
  unfold next_one_m
  have c1 : cutL ring none (some 1) = ring.take 1 := cutL_to (n := 1)
  rw [c1]
  have tl : (ring.take 1).length = 1 := by rw [List.length_take]; omega
  walk_at "wg"
  refine W.e (idx_nodup nd hk) ?_
  have e1 : ((k : Int) + 1) = ((k + 1 : Nat) : Int) := by omega
  rw [e1]
  refine W.e (at_nat 0 (by rw [List.length_append, tl]; omega)) (W.s ?_)
  unfold nextOf
  unfold List.getD
  split
  · rw [List.getElem?_append_left (by omega)]
  · have : k + 1 = ring.length := by omega
    rw [this, List.getElem?_append_right (by omega), Nat.sub_self, List.getElem?_take_of_lt (by omega)])
theorem next2_eq {k : Nat} (kl : k < ring.length) (hl : ring.length ≤ 5) : atI (ring ++ ring) ((k : Int) + 1) = some (nextOf ring k) := by
  have e1 : ((k : Int) + 1) = ((k + 1 : Nat) : Int) := by omega
  rw [e1, at_nat 0 (by rw [List.length_append]; omega)]
  unfold nextOf List.getD
  split
  · rw [List.getElem?_append_left (by omega)]
  · have : k + 1 = ring.length := by omega
    rw [this, List.getElem?_append_right (by omega), Nat.sub_self]
/-- a wait ring: two hands at least, each once -/
structure RingOk (n : Int) (ring : List Int) : Prop where
  two : 2 ≤ ring.length
  five : ring.length ≤ 5
  nd : ring.Nodup
  mem : ∀ a ∈ ring, 0 ≤ a ∧ a < n
theorem next_mem (ok : RingOk hs ring) {k : Nat} (kl : k < ring.length) : nextOf ring k ∈ ring := by
  have := ok.two
  unfold nextOf
  split
  · simp only [List.getD, List.getElem?_eq_getElem (by assumption : k + 1 < ring.length)]
    exact List.getElem_mem _
  · simp only [List.getD, List.getElem?_eq_getElem (by omega : 0 < ring.length)]
    exact List.getElem_mem _
theorem next_ne (ok : RingOk hs ring) {k : Nat} {a : Int} (hk : ring[k]? = some a) : nextOf ring k ≠ a := by
  have kl := (List.getElem?_eq_some_iff.mp hk).1
  have := ok.two
  intro e
  unfold nextOf List.getD at e
  split at e
  · rename_i h1
    rw [List.getElem?_eq_getElem h1] at e
    have e2 : ring[k + 1]? = ring[k]? := by rw [List.getElem?_eq_getElem h1, hk]; exact congrArg some e
    have := (List.getElem?_inj h1 ok.nd).mp e2
    omega
  · have h0 : 0 < ring.length := by omega
    rw [List.getElem?_eq_getElem h0] at e
    have e2 : ring[0]? = ring[k]? := by rw [List.getElem?_eq_getElem h0, hk]; exact congrArg some e
    have := (List.getElem?_inj h0 ok.nd).mp e2
    omega
/-- the events of a hand, those of the ring behind it told -/
def ownP (d : Door) (n : Int) (ring : List Int) (a nx : Int) : List Ev :=
  ((.raised, [a]) :: ((srtI ring).filter fun j => decide (cellR d.1 a.toNat j.toNat = ("even" : Str))).map fun j => (.hand, [a, j])) ++ (((d.2.getD a.toNat []).take ((idxE (d.2.getD a.toNat []) nx).getD 0).toNat).filter fun j => decide (j ∈ ring)).map fun j => (.look, [a, j])
theorem ev_ring (ok : RingOk hs ring) {a : Int} : (evP d hs a).filter (fun j => decide (j ∈ ring)) = (srtI ring).filter fun j => decide (cellR d.1 a.toNat j.toNat = ("even" : Str)) := by
  refine asc_eq ?_ ?_ fun x => ?_
  · unfold evP
    exact (rng_asc.filter _).filter _
  · exact (srtI_lt ok.nd).filter _
  · unfold evP
    simp only [List.mem_filter, decide_eq_true_eq, rng_mem, srtI_perm.mem_iff]
    exact ⟨fun z => ⟨z.2, z.1.2⟩, fun z => ⟨⟨ok.mem x z.1, z.2⟩, z.1⟩⟩
theorem order_has (gd' : GoodD hs.toNat d) (h1 : 1 ≤ hs) (h5 : hs ≤ 5) (ok : RingOk hs ring) {k : Nat} {a : Int} (hk : ring[k]? = some a) : ∃ o, d.2[a.toNat]? = some o ∧ o.length ≤ 5 ∧ ∃ j : Nat, idxE o (nextOf ring k) = some (j : Int) := by
  have am := ok.mem a (List.mem_of_getElem? hk)
  obtain ⟨o, ho, lo, _⟩ := gd'.order (by omega) (k := a.toNat) (by omega)
  have nm := next_mem ok (List.getElem?_eq_some_iff.mp hk).1
  have nr := ok.mem _ nm
  have nn := next_ne ok hk
  have p := gd'.ord a.toNat o ho
  have : nextOf ring k ∈ o := p.mem_iff.mpr (by
    unfold others
    rw [List.mem_filter, rng_mem]
    exact ⟨by omega, by simp; omega⟩)
  obtain ⟨j, hj, _⟩ := idx_some this
  exact ⟨o, ho, by omega, j, hj⟩
theorem own_eq (g : GoodH hs rs h) (r0 : 0 ≤ room) (hd : h.1[room.toNat]? = some (some d)) (gd' : GoodD hs.toNat d) (ok : RingOk hs ring) {k : Nat} {a : Int} (hk : ring[k]? = some a) : own_events_m h room ring a = some (ownP d hs ring a (nextOf ring k)) := W.eq (by
  have am := ok.mem a (List.mem_of_getElem? hk)
  have h5 := g.h5
  have r5 := ok.five
  obtain ⟨o, ho, lo, j, hj⟩ := order_has gd' g.h1 g.h5 ok hk
  have el : (evP d hs a).length ≤ 5 := by
    unfold evP
    exact Nat.le_trans (List.length_filter_le _ _) (by rw [rng_length]; omega)
  unfold own_events_m
  refine W.e (evens_eqP g r0 hd gd' am.1 am.2) ?_
  walk_at "wg"
  refine W.e (lcM_filterU (g := fun c16 : Int => ((.hand, [a, c16]) : Ev))) ?_
  have fl : ((evP d hs a).filter fun c16 => decide (c16 ∈ ring)).length ≤ 5 := Nat.le_trans (List.length_filter_le _ _) el
  simp only
  walk_at "wg"
  refine W.e (atI_some r0 hd) (W.e rfl (W.e (atI_some am.1 ho) (W.e (next_eq ok.nd r5 hk) (W.e hj ?_))))
  rw [cutL_to]
  have tl : (o.take j).length ≤ 5 := by rw [List.length_take]; omega
  walk_at "wg"
  refine W.e (lcM_filterU (g := fun c26 : Int => ((.look, [a, c26]) : Ev))) ?_
  have tl2 : ((o.take j).filter fun c26 => decide (c26 ∈ ring)).length ≤ 5 := Nat.le_trans (List.length_filter_le _ _) tl
  simp only
  walk_at "wg"
  refine W.s ?_
  unfold ownP
  have od : d.2.getD a.toNat [] = o := by unfold List.getD; rw [ho]; rfl
  rw [od, hj, ev_ring ok]
  rfl)
theorem chain_eq (gd' : GoodD hs.toNat d) (h1 : 1 ≤ hs) (h5 : hs ≤ 5) (ok : RingOk hs ring) {k : Nat} {a : Int} (hk : ring[k]? = some a) : l_chain_m d ring (k : Int) = some (ownP d hs ring a (nextOf ring k)) := W.eq (by
  have am := ok.mem a (List.mem_of_getElem? hk)
  have kl := (List.getElem?_eq_some_iff.mp hk).1
  have r5 := ok.five
  obtain ⟨o, ho, lo, j, hj⟩ := order_has gd' h1 h5 ok hk
  unfold l_chain_m
  refine W.e (atI_some (by omega) (by rw [Int.toNat_natCast]; exact hk)) ?_
  walk_at "wg"
  refine W.e (next2_eq kl r5) ?_
  have sl : (srtI ring).length ≤ 5 := by rw [srtI_perm.length_eq]; exact r5
  walk_at "wg"
  refine W.e (W.lcP (o := fun c329 => (atI d.1 a).bind fun p331 => (atI p331 c329).bind fun p332 => some (decide (p332 = ("even" : Str)))) (g := fun c329 => ((.hand, [a, c329]) : Ev)) fun c hc => ?_) ?_
  · have cm := ok.mem c (srtI_perm.mem_iff.mp hc)
    obtain ⟨row, c1, c2⟩ := cell_at gd' am.1 (by omega) cm.1 (by omega)
    rw [c1]
    simp only [Option.bind_some, c2]
    exact ⟨_, rfl⟩
  have e1 : ((srtI ring).filter fun c329 => ((atI d.1 a).bind fun p331 => (atI p331 c329).bind fun p332 => some (decide (p332 = ("even" : Str)))).getD false) = (srtI ring).filter fun j => decide (cellR d.1 a.toNat j.toNat = ("even" : Str)) := List.filter_congr fun c hc => by
    have cm := ok.mem c (srtI_perm.mem_iff.mp hc)
    obtain ⟨row, c1, c2⟩ := cell_at gd' am.1 (by omega) cm.1 (by omega)
    rw [c1]
    simp only [Option.bind_some, c2]
    rfl
  rw [e1]
  have fl : ((srtI ring).filter fun j => decide (cellR d.1 a.toNat j.toNat = ("even" : Str))).length ≤ 5 := Nat.le_trans (List.length_filter_le _ _) sl
  simp only
  walk_at "wg"
  refine W.e (atI_some am.1 ho) (W.e (atI_some am.1 ho) (W.e hj ?_))
  rw [cutL_to]
  have tl : (o.take j).length ≤ 5 := by rw [List.length_take]; omega
  walk_at "wg"
  refine W.e (lcM_filterU (g := fun c26 : Int => ((.look, [a, c26]) : Ev))) ?_
  have tl2 : ((o.take j).filter fun c26 => decide (c26 ∈ ring)).length ≤ 5 := Nat.le_trans (List.length_filter_le _ _) tl
  simp only
  walk_at "wg"
  refine W.s ?_
  unfold ownP
  have od : d.2.getD a.toNat [] = o := by unfold List.getD; rw [ho]; rfl
  rw [od, hj]
  rfl)
theorem own_len (g : GoodD hs.toNat d) (h1 : 1 ≤ hs) (h5 : hs ≤ 5) (ok : RingOk hs ring) {k : Nat} {a : Int} (hk : ring[k]? = some a) : (ownP d hs ring a (nextOf ring k)).length ≤ 11 := by
  obtain ⟨o, ho, lo, j, hj⟩ := order_has g h1 h5 ok hk
  have od : d.2.getD a.toNat [] = o := by unfold List.getD; rw [ho]; rfl
  have r5 := ok.five
  unfold ownP
  rw [od, List.length_append, List.length_cons, List.length_map, List.length_map]
  have a1 : ((srtI ring).filter fun j => decide (cellR d.1 a.toNat j.toNat = ("even" : Str))).length ≤ 5 := Nat.le_trans (List.length_filter_le _ _) (by rw [srtI_perm.length_eq]; exact r5)
  have a2 : ((o.take ((idxE o (nextOf ring k)).getD 0).toNat).filter fun j => decide (j ∈ ring)).length ≤ 5 := Nat.le_trans (List.length_filter_le _ _) (by rw [List.length_take]; omega)
  omega
/-- the events of all hands of a ring, hand by hand -/
def chainsP (d : Door) (n : Int) (ring : List Int) : List (List Ev) := (List.range ring.length).map fun k => ownP d n ring (ring.getD k 0) (nextOf ring k)
theorem chains_eq (gd' : GoodD hs.toNat d) (h1 : 1 ≤ hs) (h5 : hs ≤ 5) (ok : RingOk hs ring) : l_chains_m d ring = some (chainsP d hs ring) := W.eq (by
  have r5 := ok.five
  unfold l_chains_m
  walk_at "wg"
  walk_at "wg"
  walk_at "wg"
  have z := lcM_tot (f := fun (t343 : Unit) (c343 : Int) => (l_chain_m d ring c343).bind fun p347 => some ((), some p347)) (g := fun c : Int => ownP d hs ring (ring.getD c.toNat 0) (nextOf ring c.toNat)) (xs := rng 0 (ring.length : Int)) fun c hc => by
    have cr := mem_rng hc
    have e : ((c.toNat : Nat) : Int) = c := by omega
    have hk : ring[c.toNat]? = some (ring.getD c.toNat 0) := by simp [List.getD, (by omega : c.toNat < ring.length)]
    have z := chain_eq gd' h1 h5 ok hk
    rw [e] at z
    rw [z]
    rfl
  refine W.e z (W.s ?_)
  unfold chainsP rng
  rw [List.map_map]
  simp only [Int.sub_zero, Int.toNat_natCast]
  refine List.map_congr_left fun k hk => ?_
  show ownP d hs ring (ring.getD ((0 : Int) + (k : Int)).toNat 0) (nextOf ring ((0 : Int) + (k : Int)).toNat) = _
  rw [show ((0 : Int) + (k : Int)).toNat = k by omega])
theorem forS_cat {β : Type} {f : List β → List β → Option (List β)} {m : Nat} : ∀ {ls : List (List β)} {s : List β}, (∀ l ∈ ls, l.length ≤ m) → s.length + ls.length * m ≤ 1000000 → (∀ l ∈ ls, ∀ s, s.length + l.length ≤ 1000000 → f s l = some (s ++ l)) → forS f s ls = some (s ++ ls.flatten)
  | [], s, _, _, _ => by simp [forS]
  | l :: ls, s, h1, h2, h3 => by
    have a := h1 l (by simp)
    rw [List.length_cons, Nat.add_mul] at h2
    unfold forS
    rw [h3 l (by simp) s (by omega)]
    show forS f _ ls = _
    rw [forS_cat (fun x hx => h1 x (by simp [hx])) (by rw [List.length_append]; omega) fun x hx => h3 x (by simp [hx])]
    simp
theorem chains_len (gd' : GoodD hs.toNat d) (h1 : 1 ≤ hs) (h5 : hs ≤ 5) (ok : RingOk hs ring) : (chainsP d hs ring).length ≤ 5 ∧ ∀ l ∈ chainsP d hs ring, l.length ≤ 11 := by
  refine ⟨by unfold chainsP; rw [List.length_map, List.length_range]; exact ok.five, fun l hl => ?_⟩
  unfold chainsP at hl
  obtain ⟨k, hk, rfl⟩ := List.mem_map.mp hl
  have kl := List.mem_range.mp hk
  exact own_len gd' h1 h5 ok (k := k) (by simp [List.getD, kl])
/-- all events of a ring, ascending -/
def eventsP (d : Door) (n : Int) (ring : List Int) : List Ev := srtE eEv (chainsP d n ring).flatten
theorem told_eq (gd' : GoodD hs.toNat d) (h1 : 1 ≤ hs) (h5 : hs ≤ 5) (ok : RingOk hs ring) : l_told_events_m d ring = some (eventsP d hs ring) := W.eq (by
  obtain ⟨c1, c2⟩ := chains_len gd' h1 h5 ok
  unfold l_told_events_m
  refine W.e (chains_eq gd' h1 h5 ok) ?_
  have z := forS_cat (f := l_told_events_L1) (ls := chainsP d hs ring) (s := []) (m := 11) c2 (by simp; omega) fun l hl s hs => W.eq (by
    unfold l_told_events_L1
    walk_at "wg"
    exact W.s rfl)
  exact W.e z (W.s rfl))
theorem events_eq (g : GoodH hs rs h) (r0 : 0 ≤ room) (hd : h.1[room.toNat]? = some (some d)) (gd' : GoodD hs.toNat d) (ok : RingOk hs ring) : events_m h room ring = some (eventsP d hs ring) := W.eq (by
  have r5 := ok.five
  have h1 := g.h1
  have h5 := g.h5
  unfold events_m
  refine W.b (W.forS (fun zs s => s = ((List.range zs.length).map fun k => ownP d hs ring (ring.getD k 0) (nextOf ring k)).flatten ∧ s.length ≤ zs.length * 11) ⟨rfl, by simp⟩ fun zs x s ⟨r, e⟩ ⟨i, il⟩ => ?_) fun s ⟨i, _⟩ => W.s (by rw [i]; rfl)
  have hk : ring[zs.length]? = some x := by rw [e]; simp
  have zl : zs.length < ring.length := (List.getElem?_eq_some_iff.mp hk).1
  have ol := own_len gd' h1 h5 ok hk
  unfold events_L1
  refine W.e (own_eq g r0 hd gd' ok hk) ?_
  walk_at "wg"
  refine W.s ⟨?_, ?_⟩
  · rw [List.length_append, List.length_singleton, List.range_succ, List.map_append, List.flatten_append, i]
    congr 1
    have : ring.getD zs.length 0 = x := by unfold List.getD; rw [hk]; rfl
    simp only [List.map_cons, List.map_nil, List.flatten_cons, List.flatten_nil, List.append_nil]
    rw [this]
  · rw [List.length_append, List.length_append, List.length_singleton]
    omega)
theorem events_len (gd' : GoodD hs.toNat d) (h1 : 1 ≤ hs) (h5 : hs ≤ 5) (ok : RingOk hs ring) : (eventsP d hs ring).length ≤ 55 := by
  obtain ⟨c1, c2⟩ := chains_len gd' h1 h5 ok
  unfold eventsP srtE
  rw [(List.mergeSort_perm _ _).length_eq]
  have : ∀ ls : List (List Ev), (∀ l ∈ ls, l.length ≤ 11) → ls.flatten.length ≤ ls.length * 11 := by
    intro ls hl
    induction ls with
    | nil => simp
    | cons l ls ih =>
      have a := hl l (by simp)
      have b := ih fun x hx => hl x (by simp [hx])
      rw [List.flatten_cons, List.length_append, List.length_cons, Nat.add_mul]
      omega
  have := this _ c2
  omega
theorem own_ev (ok : RingOk hs ring) (gd' : GoodD hs.toNat d) (h1 : 1 ≤ hs) (h5 : hs ≤ 5) {k : Nat} {a : Int} (hk : ring[k]? = some a) : ∀ e ∈ ownP d hs ring a (nextOf ring k), e.2.length ≤ 2 ∧ ∀ x ∈ e.2, 0 ≤ x ∧ x < 100 := by
  intro e he
  have am := ok.mem a (List.mem_of_getElem? hk)
  obtain ⟨o, ho, lo, j, hj⟩ := order_has gd' h1 h5 ok hk
  unfold ownP at he
  rcases List.mem_append.mp he with z | z
  · rcases List.mem_cons.mp z with z | z
    · subst z
      exact ⟨by simp, fun x hx => by rw [List.mem_singleton] at hx; omega⟩
    · obtain ⟨c, hc, rfl⟩ := List.mem_map.mp z
      have cm := ok.mem c (srtI_perm.mem_iff.mp (List.mem_filter.mp hc).1)
      refine ⟨by simp, fun x hx => ?_⟩
      simp only [List.mem_cons, List.not_mem_nil, or_false] at hx
      omega
  · obtain ⟨c, hc, rfl⟩ := List.mem_map.mp z
    have cm := ok.mem c (of_decide_eq_true (List.mem_filter.mp hc).2)
    refine ⟨by simp, fun x hx => ?_⟩
    simp only [List.mem_cons, List.not_mem_nil, or_false] at hx
    omega
theorem fn_event {e : Ev} (h : e.2.length ≤ 2 ∧ ∀ x ∈ e.2, 0 ≤ x ∧ x < 100) : FN 1 18 (eEv e) := by
  refine fn_mono (fn_tup (k := 0) (n := 5) (m := 3) (fun x hx => ?_) (by simp; omega)) (by omega) (by omega)
  rcases List.mem_cons.mp hx with z | z
  · rw [z]
    cases e.1 <;> exact fn_str (by decide +kernel) (by decide)
  · obtain ⟨y, hy, rfl⟩ := List.mem_map.mp z
    exact fn_int (by have := h.2 y hy; omega)
theorem fn_events (gd' : GoodD hs.toNat d) (h1 : 1 ≤ hs) (h5 : hs ≤ 5) (ok : RingOk hs ring) : FN 2 1045 (eTL eEv (eventsP d hs ring)) := by
  refine fn_mono (fn_tup (k := 1) (n := 18) (m := 55) (fn_map fun e he => fn_event ?_) (by rw [List.length_map]; exact events_len gd' h1 h5 ok)) (by omega) (by omega)
  unfold eventsP srtE at he
  have he := (List.mergeSort_perm _ _).mem_iff.mp he
  obtain ⟨l, hl, he⟩ := List.mem_flatten.mp he
  unfold chainsP at hl
  obtain ⟨k, hk, rfl⟩ := List.mem_map.mp hl
  exact own_ev ok gd' h1 h5 (k := k) (by simp [List.getD, List.mem_range.mp hk]) e he
end
end LW

set_option maxHeartbeats 1000000
namespace LW
open PySem L2 RL
local macro_rules | `(tactic| walk_at "wg") => `(tactic| first
  | refine W.g (by omega) ?_
  | refine W.g (by (first | with_reducible refine bigl ?_ | with_reducible refine big ?_); (try simp only [len_numL, rng_length, List.length_append, List.length_map, List.length_cons, List.length_nil, List.length_replicate, List.length_zip]); omega) ?_)
section
variable {hs rs room : Int} {h : House} {d : Door} {ring : List Int} {words : List Str}
theorem comeK_cl {ext : List Int → List (List Int)} {cl : List Int → Bool} : ∀ (k : Nat) (r : List Int), ∀ t ∈ comeK ext cl k r, cl t = true
  | 0, r, t, ht => by
    unfold comeK at ht
    split at ht
    · rw [List.mem_singleton] at ht; rw [ht]; assumption
    · cases ht
  | k + 1, r, t, ht => by
    unfold comeK at ht
    rcases List.mem_append.mp ht with z | z
    · split at z
      · rw [List.mem_singleton] at z; rw [z]; assumption
      · cases z
    · obtain ⟨s, _, z⟩ := List.mem_flatMap.mp z
      exact comeK_cl k s t z
theorem rings_ok (g : GoodH hs rs h) (hr : ring ∈ ringsP h room d words) : RingOk hs ring := by
  have hr := srt_mem.mp hr
  have ok := ringT_ok hr
  have ul := users_len g (room := room)
  obtain ⟨x, _, z⟩ := List.mem_flatMap.mp hr
  have c := comeK_cl _ _ _ z
  unfold clR at c
  simp at c
  exact ⟨by omega, Nat.le_trans (nodup_len ok.2.1 ok.2.2) ul, ok.2.1, fun a ha => users_mem g (ok.2.2 a ha)⟩
theorem rings_cnt (g : GoodH hs rs h) : (ringsP h room d words).length ≤ 6250 := by
  unfold ringsP
  rw [srt_len]
  exact ringT_len (users_len g)
theorem roomway_w {rs room : Int} (r0 : 0 ≤ room) (r1 : room < rs) : GoodW rs [(("in" : Str), room), (("out" : Str), room)] where
  ne := by simp
  len := by simp
  all := fun s hs => by
    simp only [List.mem_cons, List.not_mem_nil, or_false] at hs
    rcases hs with e | e <;> subst e
    · exact ⟨.inl rfl, r0, r1⟩
    · exact ⟨.inr rfl, r0, r1⟩
  run := by
    have e1 : held_L1 [] (("in" : Str), room) = some [room] := held_in (s := []) (by simp)
    have e2 : held_L1 [room] (("out" : Str), room) = some [] := held_out (s := [room]) (v := room) rfl
    unfold forS
    rw [e1]
    show forS held_L1 [room] _ = _
    unfold forS
    rw [e2]
    rfl
  nest := fun i s hs => by
    have e1 : held_L1 [] (("in" : Str), room) = some [room] := held_in (s := []) (by simp)
    match i with
    | 0 => simp at hs; subst hs; exact .inl ⟨rfl, by show room ∉ ([] : List Int); simp⟩
    | 1 =>
      simp at hs; subst hs
      refine .inr ⟨rfl, ?_⟩
      have : heldP [(("in" : Str), room), (("out" : Str), room)] ((1 : Nat) : Int) = [room] := by
        unfold heldP
        show (forS held_L1 [] [(("in" : Str), room)]).getD [] = [room]
        unfold forS
        rw [e1]
        rfl
      rw [this]; rfl
    | n + 2 => simp at hs
theorem waiting_w {dk : Pot} (hp : dk.ok) (h1 : 1 ≤ hs) (h5 : hs ≤ 5) (r1 : 1 ≤ rs) (r6 : rs ≤ 6) : W (l_waiting_m dk hs rs) fun p => p.2.ok ∧ GoodH hs rs p.1.1 ∧ 0 ≤ p.1.2 ∧ p.1.2 < rs ∧ ∃ d, p.1.1.1[p.1.2.toNat]? = some (some d) ∧ GoodD hs.toNat d := by
  unfold l_waiting_m
  refine W.b (pickP_tot hp (by decide) (by decide)) fun p ⟨p1, p2⟩ => ?_
  have ok : p.1 ≠ [] ∧ p.1.length ≤ 100 ∧ ∀ w ∈ p.1, OkP w := by
    have all : ∀ w ∈ ([(("even" : Str), ("even" : Str)), (("stand" : Str), ("stand" : Str)), (("even" : Str), ("even" : Str)), (("stand" : Str), ("bow" : Str))] : List (Str × Str)), OkP w := by
      intro w hw
      unfold OkP okWord
      simp only [List.mem_cons, List.not_mem_nil, or_false] at hw
      rcases hw with e | e | e | e <;> rw [e] <;> refine ⟨by simp, by simp, by decide⟩
    simp only [List.mem_cons, List.not_mem_nil, or_false] at p2
    rcases p2 with e | e | e | e | e
    · rw [e]; exact ⟨by decide, by decide, all⟩
    · rw [e]; refine ⟨by decide, by decide, fun w hw => all w ?_⟩
      have : w ∈ ([(("even" : Str), ("even" : Str)), (("stand" : Str), ("stand" : Str)), (("even" : Str), ("even" : Str)), (("stand" : Str), ("bow" : Str))] : List (Str × Str)).take 2 := hw
      exact List.mem_of_mem_take this
    · rw [e]; refine ⟨by decide, by decide, fun w hw => all w ?_⟩
      have : w ∈ ([(("even" : Str), ("even" : Str)), (("stand" : Str), ("stand" : Str)), (("even" : Str), ("even" : Str)), (("stand" : Str), ("bow" : Str))] : List (Str × Str)).take 1 := hw
      exact List.mem_of_mem_take this
    · rw [e]; refine ⟨by decide, by decide, fun w hw => all w ?_⟩
      have : w ∈ (([(("even" : Str), ("even" : Str)), (("stand" : Str), ("stand" : Str)), (("even" : Str), ("even" : Str)), (("stand" : Str), ("bow" : Str))] : List (Str × Str)).drop 1).take 1 := hw
      exact List.mem_of_mem_drop (List.mem_of_mem_take this)
    · rw [e]; refine ⟨by decide, by decide, fun w hw => all w ?_⟩
      have : w ∈ ([(("even" : Str), ("even" : Str)), (("stand" : Str), ("stand" : Str)), (("even" : Str), ("even" : Str)), (("stand" : Str), ("bow" : Str))] : List (Str × Str)).drop 1 := hw
      exact List.mem_of_mem_drop this
  refine W.b (house_w p1 h1 h5 r1 r6 (by omega) (by omega)) fun t ⟨t1, t2, t3⟩ => ?_
  have lh := t2.lh
  have lr := t2.lr
  refine W.b (drawP_tot t1 r1 (by omega)) fun q ⟨q1, q2, q3⟩ => ?_
  refine W.b (door_w q1 h1 h5 ok.1 ok.2.1 ok.2.2) fun v ⟨v1, v2⟩ => ?_
  have eq1 : q.1 = ((q.1.toNat : Nat) : Int) := by omega
  have c1 : cutL t.1.1 none (some q.1) = t.1.1.take q.1.toNat := by
    have : cutL t.1.1 none (some ((q.1.toNat : Nat) : Int)) = _ := cutL_to
    rwa [← eq1] at this
  have c2 : cutL t.1.1 (some (q.1 + 1)) none = t.1.1.drop (q.1.toNat + 1) := by
    have : cutL t.1.1 (some ((q.1.toNat + 1 : Nat) : Int)) none = _ := cutL_from'
    rwa [show ((q.1.toNat + 1 : Nat) : Int) = q.1 + 1 by omega] at this
  rw [c1, c2]
  have l1 : (t.1.1.take q.1.toNat).length = q.1.toNat := by rw [List.length_take]; omega
  have l2 : (t.1.1.drop (q.1.toNat + 1)).length = t.1.1.length - (q.1.toNat + 1) := List.length_drop
  walk_at "wg"
  walk_at "wg"
  walk_at "wg"
  refine W.b (lcM_ex (fun d => d.ok) (GoodW rs) (fun x s hx is => ?_) v1) fun u ⟨u1, u2, u3⟩ => ?_
  · exact W.b (drawP_tot (n := 8) is (by omega) (by omega)) fun v ⟨v1, _, _⟩ => W.s ⟨v1, _, rfl, by
      split
      · exact roomway_w q2 q3
      · exact t2.wy _ hx⟩
  have len : (t.1.1.take q.1.toNat ++ [some v.1] ++ t.1.1.drop (q.1.toNat + 1)).length = t.1.1.length := by
    rw [List.length_append, List.length_append, l1, l2, List.length_singleton]; omega
  refine W.s ⟨u1, ⟨h1, h5, r1, r6, ?_, ?_, ?_, u3⟩, q2, q3, v.1, ?_, v2⟩
  · show (((t.1.1.take q.1.toNat ++ [some v.1] ++ t.1.1.drop (q.1.toNat + 1)).length : Nat) : Int) = rs
    rw [len]; exact lr
  · show ((u.2.length : Nat) : Int) = _
    rw [u2]; exact lh
  · intro o ho
    rcases List.mem_append.mp ho with z | z
    · rcases List.mem_append.mp z with z | z
      · exact t2.dr o (List.mem_of_mem_take z)
      · rw [List.mem_singleton] at z
        subst z
        intro d hd
        cases hd
        exact v2
    · exact t2.dr o (List.mem_of_mem_drop z)
  · show (t.1.1.take q.1.toNat ++ [some v.1] ++ t.1.1.drop (q.1.toNat + 1))[q.1.toNat]? = some (some v.1)
    rw [List.getElem?_append_left (by rw [List.length_append, l1]; simp), List.getElem?_append_right (by omega), l1]
    simp
theorem one_ring (g : GoodH hs rs h) (r0 : 0 ≤ room) (hd : h.1[room.toNat]? = some (some d)) (gd' : GoodD hs.toNat d) (ok : RingOk hs ring) : W (law_L2 h room () ring) fun o => o = .nx () := by
  have h1 := g.h1
  have h5 := g.h5
  have fr : FN 1 5 (eTL D.int ring) := fn_mono (fn_tup (k := 0) (n := 0) (m := 5) (fn_map fun x hx => fn_int (by have := ok.mem x hx; omega)) (by rw [List.length_map]; exact ok.five)) (by omega) (by omega)
  have fe := fn_events gd' h1 h5 ok
  obtain ⟨s, hs'⟩ := shDD_fn (fn_lst (k := 5) (n := 3758) (m := 2) (l := [encH h, eTL D.int ring]) (fn_two (fn_house g) (fn_mono fr (by omega) (by omega))) (by simp)) (by omega) (by omega)
  have hs2 : shDD (eF2 eHouse (eTL D.int) (h, ring)) = some s := hs'
  have et := told_eq gd' h1 h5 ok
  have ee := events_eq g r0 hd gd' ok
  unfold law_L2
  refine W.e hs2 (W.e (atI_some r0 hd) (W.e rfl (W.e et (W.e ee (W.e ee ?_)))))
  have q : sameQ 4 (D.lst ([eventsP d hs ring, eventsP d hs ring].map (eTL eEv))) (D.lst ([eventsP d hs ring, eventsP d hs ring].map (eTL eEv))) = true := sameQ_fn (k := 3) (m := 2092) (fn_lst (k := 2) (n := 1045) (m := 2) (fn_two fe fe) (by simp)) (by omega) (by omega) (by omega)
  refine W.gb q ?_
  exact W.i (fun z => by cases z) fun _ => W.e hs2 (W.i (fun z => by simp at z) fun _ => W.s rfl)
theorem law_true (ns : List Int) (hn : ns.length ≤ 63) : law_m ns = some true := W.eq (by
  unfold law_m
  refine W.b pot_w fun pot hp => ?_
  refine W.b (W.forOn (fun d => d.ok) hp fun x hx s hd => ?_) fun o ⟨s, e, _⟩ => by subst e; exact W.s rfl
  unfold law_L1
  refine W.b (drawP_tot (n := 4) hd (by omega) (by omega)) fun p ⟨p1, p2, p3⟩ => W.b (drawP_tot (n := 3) p1 (by omega) (by omega)) fun q ⟨q1, q2, q3⟩ => ?_
  refine W.b (waiting_w (hs := 2 + p.1) (rs := 1 + q.1) q1 (by omega) (by omega) (by omega) (by omega)) fun t ⟨t1, t2, t3, t4, d, t5, t6⟩ => ?_
  refine W.e (law_eq t2 t3 t5 t6) ?_
  refine W.b (mixP_w t1 (by have := rings_cnt t2 (room := t.1.2) (d := d) (words := [("stand" : Str), ("even" : Str)]); omega)) fun u ⟨u1, u2⟩ => ?_
  refine W.b (W.forOn (fun _ => True) trivial fun x hx s _ => ?_) fun o ⟨s, e, _⟩ => by subst e; exact W.s ⟨_, rfl, u1⟩
  have hx : x ∈ u.1 := by
    have c : cutL u.1 none (some ((12 : Nat) : Int)) = u.1.take 12 := cutL_to
    have hx : x ∈ u.1.take 12 := by rw [← c]; exact hx
    exact List.mem_of_mem_take hx
  have hr := u2.mem_iff.mp hx
  exact (one_ring t2 t3 t5 t6 (rings_ok t2 hr)).m fun o ho => ⟨(), ho, trivial⟩)
end
end LW

set_option maxHeartbeats 0
namespace LW
open PySem PySem.Spec PyProof.Rows L2 RL
theorem ob_eq (s : PySem.W.SharedT) : ob s = hk.obs s.abs := obsZG_eq (HandSHeadRun.getT_eq s)
theorem facts {P : Program} {w : World} {K : PySem.W.Frag} {h : Heap} {mg : Str → Option Value} {f : Addr} (X : K.In h) (G : h.Ns mainGlobals mg) (hfa : mg ("law" : Str) = some (.ref f)) (cz : SaysZ zz fa fn K) :
    ∃ fd : FuncData, (∀ (s : Shared) (v : Value), BindsTo s fd ⟨[v], []⟩ [("script", v)]) ∧ ∀ base : Heap, K.In base → base.Ns mainGlobals mg → FnG P w K mg base 6 f fd ["script"] (spR K 1 [] (lawRel 63 law_m)) := by
  have c : He.SaysD fa fn K := cz.d
  obtain ⟨fd_evens, F_evens⟩ := c.def_ 0 (d := d_evens) rfl
  obtain ⟨fd_next_one, F_next_one⟩ := c.def_ 1 (d := d_next_one) rfl
  obtain ⟨fd_own_events, F_own_events⟩ := c.def_ 2 (d := d_own_events) rfl
  obtain ⟨fd_events, F_events⟩ := c.def_ 3 (d := d_events) rfl
  obtain ⟨fd_l_pot, F_l_pot⟩ := c.def_ 4 (d := d_l_pot) rfl
  obtain ⟨fd_l_draw, F_l_draw⟩ := c.def_ 5 (d := d_l_draw) rfl
  obtain ⟨fd_l_pick, F_l_pick⟩ := c.def_ 6 (d := d_l_pick) rfl
  obtain ⟨fd_l_same, F_l_same⟩ := c.def_ 7 (d := d_l_same) rfl
  obtain ⟨fd_l_mixed, F_l_mixed⟩ := c.def_ 8 (d := d_l_mixed) rfl
  obtain ⟨fd_l_way, F_l_way⟩ := c.def_ 9 (d := d_l_way) rfl
  obtain ⟨fd_l_door, F_l_door⟩ := c.def_ 10 (d := d_l_door) rfl
  obtain ⟨fd_l_words, F_l_words⟩ := c.def_ 11 (d := d_l_words) rfl
  obtain ⟨fd_l_house, F_l_house⟩ := c.def_ 12 (d := d_l_house) rfl
  obtain ⟨fd_l_rings_of, F_l_rings_of⟩ := c.def_ 13 (d := d_l_rings_of) rfl
  obtain ⟨fd_l_hand_rings, F_l_hand_rings⟩ := c.def_ 14 (d := d_l_hand_rings) rfl
  obtain ⟨fd_l_chain, F_l_chain⟩ := c.def_ 15 (d := d_l_chain) rfl
  obtain ⟨fd_l_chains, F_l_chains⟩ := c.def_ 16 (d := d_l_chains) rfl
  obtain ⟨fd_l_told_events, F_l_told_events⟩ := c.def_ 17 (d := d_l_told_events) rfl
  obtain ⟨fd_l_waiting, F_l_waiting⟩ := c.def_ 18 (d := d_l_waiting) rfl
  obtain ⟨fd_law, F_law⟩ := c.def_ 19 (d := d_law) rfl
  have g_evens := He.glo_ok X G (c.fact 0 (f := .glo "evens") rfl)
  have g_next_one := He.glo_ok X G (c.fact 1 (f := .glo "next_one") rfl)
  have g_own_events := He.glo_ok X G (c.fact 2 (f := .glo "own_events") rfl)
  have g_events := He.glo_ok X G (c.fact 3 (f := .glo "events") rfl)
  have g_l_pot := He.glo_ok X G (c.fact 4 (f := .glo "_law_pot") rfl)
  have g_l_draw := He.glo_ok X G (c.fact 5 (f := .glo "_law_draw") rfl)
  have g_l_pick := He.glo_ok X G (c.fact 6 (f := .glo "_law_pick") rfl)
  have g_l_same := He.glo_ok X G (c.fact 7 (f := .glo "_law_same") rfl)
  have g_l_mixed := He.glo_ok X G (c.fact 8 (f := .glo "_law_mixed") rfl)
  have g_l_way := He.glo_ok X G (c.fact 9 (f := .glo "_law_way") rfl)
  have g_l_door := He.glo_ok X G (c.fact 10 (f := .glo "_law_door") rfl)
  have g_l_words := He.glo_ok X G (c.fact 11 (f := .glo "_law_words") rfl)
  have g_l_house := He.glo_ok X G (c.fact 12 (f := .glo "_law_house") rfl)
  have g_l_rings_of := He.glo_ok X G (c.fact 13 (f := .glo "_law_rings_of") rfl)
  have g_l_hand_rings := He.glo_ok X G (c.fact 14 (f := .glo "_law_hand_rings") rfl)
  have g_l_chain := He.glo_ok X G (c.fact 15 (f := .glo "_law_chain") rfl)
  have g_l_chains := He.glo_ok X G (c.fact 16 (f := .glo "_law_chains") rfl)
  have g_l_told_events := He.glo_ok X G (c.fact 17 (f := .glo "_law_told_events") rfl)
  have g_l_waiting := He.glo_ok X G (c.fact 18 (f := .glo "_law_waiting") rfl)
  have g_abs := He.free_ok X G (c.fact 20 (f := .free "abs") rfl)
  have g_all := He.free_ok X G (c.fact 21 (f := .free "all") rfl)
  have g_bool := He.free_ok X G (c.fact 22 (f := .free "bool") rfl)
  have g_enumerate := He.free_ok X G (c.fact 23 (f := .free "enumerate") rfl)
  have g_int := He.free_ok X G (c.fact 24 (f := .free "int") rfl)
  have g_isinstance := He.free_ok X G (c.fact 25 (f := .free "isinstance") rfl)
  have g_len := He.free_ok X G (c.fact 26 (f := .free "len") rfl)
  have g_list := He.free_ok X G (c.fact 27 (f := .free "list") rfl)
  have g_range := He.free_ok X G (c.fact 28 (f := .free "range") rfl)
  have g_repr := He.free_ok X G (c.fact 29 (f := .free "repr") rfl)
  have g_sorted := He.free_ok X G (c.fact 30 (f := .free "sorted") rfl)
  have g_str := He.free_ok X G (c.fact 31 (f := .free "str") rfl)
  have g_tuple := He.free_ok X G (c.fact 32 (f := .free "tuple") rfl)
  have g_zip := He.free_ok X G (c.fact 33 (f := .free "zip") rfl)
  have e := hfa.symm.trans (He.glo_ok X G (c.fact 19 (f := .glo "law") rfl))
  cases e
  have b := FunD.bindsA (ps := ["script"]) F_law fun _ _ _ _ _ _ us hl => match us, hl with | [_], _ => rfl
  refine ⟨fd_law, fun s v => b s [v] rfl, fun base _ _ => ?_⟩
  have G_evens : FnG P w K mg base 1 _ fd_evens ["house", "room", "hand"] (spR K 3 [] evensR) := evens_ok F_evens g_enumerate g_tuple
  have G_next_one : FnG P w K mg base 1 _ fd_next_one ["ring", "hand"] (spR K 2 [] next_oneR) := next_one_ok F_next_one
  have G_own_events : FnG P w K mg base 2 _ fd_own_events ["house", "room", "ring", "hand"] (spR K 4 [] own_eventsR) := own_events_ok F_own_events G_evens F_evens g_evens G_next_one F_next_one g_next_one
  have G_events : FnG P w K mg base 3 _ fd_events ["house", "room", "ring"] (spR K 3 [] eventsR) := events_ok F_events G_own_events F_own_events g_own_events g_sorted g_tuple
  have G_l_pot : FnG P w K mg base 1 _ fd_l_pot ["script"] (spR K 1 [] l_potR) := l_pot_ok F_l_pot g_abs g_int g_len
  have G_l_draw : FnG P w K mg base 1 _ fd_l_draw ["pot", "many"] (spR K 2 [0] drawPR) := draw_ok F_l_draw g_int
  have G_l_pick : FnG P w K mg base 2 _ fd_l_pick ["pot", "items"] (spR K 2 [0] pickPR) := pick_ok F_l_pick G_l_draw F_l_draw g_l_draw g_len
  have G_l_same : FnG P w K mg base 5 _ fd_l_same ["found", "due"] (spR K 2 [] (samePR 4)) := sameP_ok F_l_same g_l_same g_isinstance g_tuple g_list g_len g_repr g_all g_zip g_bool g_str g_int 4
  have G_l_mixed : FnG P w K mg base 2 _ fd_l_mixed ["pot", "items"] (spR K 2 [0] mixPR) := mixP_ok F_l_mixed G_l_draw F_l_draw g_l_draw g_len
  have G_l_way : FnG P w K mg base 3 _ fd_l_way ["pot", "some", "size"] (spR K 3 [0] l_wayR) := l_way_ok F_l_way G_l_draw F_l_draw g_l_draw G_l_pick F_l_pick g_l_pick g_tuple
  have G_l_door : FnG P w K mg base 3 _ fd_l_door ["pot", "many", "words"] (spR K 3 [0] l_doorR) := l_door_ok F_l_door G_l_pick F_l_pick g_l_pick G_l_mixed F_l_mixed g_l_mixed g_range g_tuple
  have G_l_words : FnG P w K mg base 3 _ fd_l_words ["pot"] (spR K 1 [0] l_wordsR) := l_words_ok F_l_words G_l_pick F_l_pick g_l_pick
  have G_l_house : FnG P w K mg base 4 _ fd_l_house ["pot", "many", "rooms", "size", "doors"] (spR K 5 [0] l_houseR) := l_house_ok F_l_house G_l_draw F_l_draw g_l_draw G_l_way F_l_way g_l_way G_l_door F_l_door g_l_door G_l_words F_l_words g_l_words g_list g_range g_tuple
  have G_l_rings_of : FnG P w K mg base 1 _ fd_l_rings_of ["nodes", "leads", "hand_of"] (spR K 3 [1] l_rings_ofR) := l_rings_of_ok F_l_rings_of g_len g_sorted
  have G_l_hand_rings : FnG P w K mg base 2 _ fd_l_hand_rings ["house", "room", "words"] (spR K 3 [] l_hand_ringsR) := l_hand_rings_ok F_l_hand_rings G_l_rings_of F_l_rings_of g_l_rings_of g_enumerate g_len g_list g_range
  have G_l_chain : FnG P w K mg base 1 _ fd_l_chain ["door", "ring", "spot"] (spR K 3 [] l_chainR) := l_chain_ok F_l_chain g_sorted
  have G_l_chains : FnG P w K mg base 2 _ fd_l_chains ["door", "ring"] (spR K 2 [] l_chainsR) := l_chains_ok F_l_chains G_l_chain F_l_chain g_l_chain g_len g_range
  have G_l_told_events : FnG P w K mg base 3 _ fd_l_told_events ["door", "ring"] (spR K 2 [] l_told_eventsR) := l_told_events_ok F_l_told_events G_l_chains F_l_chains g_l_chains g_sorted
  have G_l_waiting : FnG P w K mg base 5 _ fd_l_waiting ["pot", "many", "rooms"] (spR K 3 [0] l_waitingR) := l_waiting_ok F_l_waiting G_l_draw F_l_draw g_l_draw G_l_pick F_l_pick g_l_pick G_l_door F_l_door g_l_door G_l_house F_l_house g_l_house g_tuple
  exact FnG.imp (law_ok F_law G_events F_events g_events G_l_pot F_l_pot g_l_pot G_l_draw F_l_draw g_l_draw G_l_same F_l_same g_l_same G_l_mixed F_l_mixed g_l_mixed G_l_hand_rings F_l_hand_rings g_l_hand_rings G_l_told_events F_l_told_events g_l_told_events G_l_waiting F_l_waiting g_l_waiting g_range g_repr g_tuple) fun vs H Q E ⟨ms, F, r, ms', h1, h2, ⟨ns, _, e, hf, er, em⟩, h4⟩ => ⟨ms, F, r, ms', h1, h2, ⟨ns, true, hf, e, er, em⟩, h4⟩
end LW
open PySem PySem.W PySem.Calls PyProof.Rows
theorem PySem.Challenge.cw_roomways_k35_whole_events_of_wait_rings_holds : PySem.Challenge.rw_roomways_k35_whole_events_of_wait_rings.Holds := by
  w_on; o_law
  refine HandSHeadRun.head_any (r := OpenLaw.row PySem.Challenge.rw_roomways_k35_whole_events_of_wait_rings) (q := view (OpenLaw.row PySem.Challenge.rw_roomways_k35_whole_events_of_wait_rings).prog [22]) (H := LW.hk) (ob := LW.ob) (M := 3000) (loose := [("evens" : PySem.Str), ("next_one" : PySem.Str), ("own_events" : PySem.Str), ("events" : PySem.Str), ("_law_pot" : PySem.Str), ("_law_draw" : PySem.Str), ("_law_pick" : PySem.Str), ("_law_same" : PySem.Str), ("_law_mixed" : PySem.Str), ("_law_way" : PySem.Str), ("_law_door" : PySem.Str), ("_law_words" : PySem.Str), ("_law_house" : PySem.Str), ("_law_rings_of" : PySem.Str), ("_law_hand_rings" : PySem.Str), ("_law_chain" : PySem.Str), ("_law_chains" : PySem.Str), ("_law_told_events" : PySem.Str), ("_law_waiting" : PySem.Str)]) (d := HandSHeadRun.topDef (OpenLaw.row PySem.Challenge.rw_roomways_k35_whole_events_of_wait_rings).prog 22) (kwd := []) LW.ob_eq
    (by kernel_rfl) (fun s => by kernel_rfl) LW.run (by kernel_rfl) (by kernel_rfl) (by kernel_rfl) (by rfl) (by first | assumption | decide +kernel) (by decide +kernel) ⟨rfl, rfl, rfl, rfl, rfl, by decide +kernel⟩ ?hw ?hc
  case hw => w_witness2
  case hc =>
    refine RL.walkG (l := PySem.Challenge.rw_roomways_k35_whole_events_of_wait_rings) (n := 63) (k := 6) (x := "script") rfl (by decide) (by kernel_rfl) ⟨rfl, by decide, by decide⟩ ?F
    intro w mg fa h Y G hmg0
    obtain ⟨K, KX, c⟩ := Y
    have hmg : mg ("law" : PySem.Str) = some (.ref fa) := by
      have e : (HandSHeadRun.topDef (OpenLaw.row PySem.Challenge.rw_roomways_k35_whole_events_of_wait_rings).prog 22).name = ("law" : PySem.Str) := by kernel_rfl
      rw [← e]
      exact hmg0
    obtain ⟨fd, hb, hF⟩ := LW.facts (P := (PySem.Challenge.rw_roomways_k35_whole_events_of_wait_rings).prog) (w := w) KX G hmg c
    exact ⟨K, fd, LW.law_m, KX, hb, LW.law_true, hF⟩

