import PyProof.Rows.All
import Wide.All
import OpenK.AllK
import Wide.FinOn
import HandS.ForMost
import HandS.Walk
import HandS.Flow
import HandS.Style
import HandS.TupAny
import HandS.TupMul
import HandS.Deep
import HandS.Defaults
import HandS.Conv
import KE.KUnpackStar
import HandS.NoneIn
import PyProof.P3In
import KE.SortData
import PyProof.Rows.NestShow
import HandS.RaiseMore
import HandS.SetFor
import HandS.Strs
import PyProof.StrLawsRepr
import PyProof.ReprLen
import HandS.Iter
import HandS.SetKeys
import PyProof.EnumMake
import PyProof.Draws
import KE.GoesMore
import HandS.Rev
import PyProof.StrOps2
import PyProof.Rows.RegStrFacts
import PyProof.Rows.StrJoinMade
import HandS.IsInst
import PyProof.Rows.IntBool
import HandS.Text
import PyProof.Rows.ReprOcc
import KE.KRevSl
import KE.GoesEnumKw
import PyProof.Rows.CallKwBuiltin
import HandS.Zip
import HandS.Zip0
import PyProof.ListStr
import PyProof.ReprRoads
import PyProof.NeKinds
import PySem.Challenge.RW_blendmarks_k02_names_marks_places_of_any
set_option Elab.async false
set_option linter.all false
set_option maxRecDepth 100000
set_option maxHeartbeats 4000000
/-! BM, part 1: values as trees, what is owned, the small separation logic over the abstract heap. -/
namespace BM
open PySem PySem.Spec PyProof.Rows L2

/-- plain data, as a tree -/
inductive D where
  | non | bl (b : Bool) | int (i : Int) | str (x : Str)
  | tup (xs : List D) | lst (xs : List D) | dct (kvs : List (D × D)) | obj (C : Addr) (ns : List Str) (xs : List D)
  deriving Inhabited
/-- owned data: what may still be changed -/
inductive O where
  | d (x : D) | lst (xs : List O) | dct (ks : List D) (vs : List O) | obj (C : Addr) (ns : List Str) (xs : List O)
  deriving Inhabited
mutual
def O.toD : O → D
  | .d x => x
  | .lst xs => .lst (O.toDs xs)
  | .dct ks vs => .dct (ks.zip (O.toDs vs))
  | .obj C ns xs => .obj C ns (O.toDs xs)
def O.toDs : List O → List D
  | [] => []
  | x :: r => O.toD x :: O.toDs r
end
theorem O.toDs_eq : ∀ l : List O, O.toDs l = l.map O.toD
  | [] => rfl
  | x :: r => by rw [O.toDs, O.toDs_eq r]; rfl
def keyD : Key → D
  | .inl i => .int i
  | .inr x => .str x
abbrev leaf (l : List D) : List O := l.map O.d
theorem toDs_leaf : ∀ l : List D, O.toDs (leaf l) = l
  | [] => rfl
  | x :: r => by
    show O.toD (.d x) :: O.toDs (leaf r) = _
    rw [toDs_leaf r]; rfl

section
variable (K : PySem.W.Frag)
mutual
/-- v stands for the tree, in what is frozen -/
def Rep (G : Hp) : D → V → Prop
  | .non, v => v = .non
  | .bl b, v => v = .bl b
  | .int i, v => v = .int i
  | .str x, v => v = .str x
  | .tup ds, v => ∃ a vs, v = .ref a ∧ SqT K G a vs ∧ Reps G ds vs
  | .lst ds, v => ∃ a vs, v = .ref a ∧ SqL K G a vs ∧ Reps G ds vs
  | .dct l, v => ∃ a kvs, v = .ref a ∧ Rd G a (.dK kvs) ∧ RepKs G l kvs
  | .obj C ns ds, v => ∃ a dx vs, v = .ref a ∧ G a = some (.ins C dx (ns.zip vs)) ∧ G dx = some (.own a) ∧ ns.length = vs.length ∧ Reps G ds vs
def Reps (G : Hp) : List D → List V → Prop
  | [], vs => vs = []
  | d :: ds, vs => ∃ v r, vs = v :: r ∧ Rep G d v ∧ Reps G ds r
def RepKs (G : Hp) : List (D × D) → List (Key × V) → Prop
  | [], vs => vs = []
  | (k, d) :: ds, vs => ∃ k' v r, vs = (k', v) :: r ∧ k = keyD k' ∧ Rep G d v ∧ RepKs G ds r
end
end
theorem Same.rd {G H : Hp} (e : Same G H) {a : Addr} {u : HO} (h : Rd G a u) : Rd H a u := by
  rcases h with h | ⟨o, h⟩
  · exact .inl (e _ _ h)
  · exact .inr ⟨o, e _ _ h⟩
theorem Same.seqT {K : PySem.W.Frag} {G H : Hp} (e : Same G H) {a : Addr} {xs : List V} (h : SqT K G a xs) : SqT K H a xs := by
  rcases h with h | h
  · exact .inl (Same.rd e h)
  · exact .inr h
section
variable {K : PySem.W.Frag} {G H : Hp}
mutual
theorem Rep.mono (e : Same G H) : ∀ {d : D} {v : V}, Rep K G d v → Rep K H d v
  | .non, _, h => h
  | .bl _, _, h => h
  | .int _, _, h => h
  | .str _, _, h => h
  | .tup ds, _, h => by
    rw [Rep] at h ⊢
    obtain ⟨a, vs, h1, h2, h3⟩ := h
    exact ⟨a, vs, h1, Same.seqT e h2, Reps.mono e h3⟩
  | .lst ds, _, h => by
    rw [Rep] at h ⊢
    obtain ⟨a, vs, h1, h2, h3⟩ := h
    exact ⟨a, vs, h1, Same.seq e h2, Reps.mono e h3⟩
  | .dct l, _, h => by
    rw [Rep] at h ⊢
    obtain ⟨a, vs, h1, h2, h3⟩ := h
    exact ⟨a, vs, h1, Same.rd e h2, RepKs.mono e h3⟩
  | .obj C ns ds, _, h => by
    rw [Rep] at h ⊢
    obtain ⟨a, dx, vs, h1, h2, h3, h4, h5⟩ := h
    exact ⟨a, dx, vs, h1, e _ _ h2, e _ _ h3, h4, Reps.mono e h5⟩
theorem Reps.mono (e : Same G H) : ∀ {ds : List D} {vs : List V}, Reps K G ds vs → Reps K H ds vs
  | [], _, h => by rw [Reps] at h ⊢; exact h
  | d :: ds, _, h => by
    rw [Reps] at h ⊢
    obtain ⟨v, r, h1, h2, h3⟩ := h
    exact ⟨v, r, h1, Rep.mono e h2, Reps.mono e h3⟩
theorem RepKs.mono (e : Same G H) : ∀ {l : List (D × D)} {kvs : List (Key × V)}, RepKs K G l kvs → RepKs K H l kvs
  | [], _, h => by rw [RepKs] at h ⊢; exact h
  | (k, d) :: ds, _, h => by
    rw [RepKs] at h ⊢
    obtain ⟨k', v, r, h1, h2, h3, h4⟩ := h
    exact ⟨k', v, r, h1, h2, Rep.mono e h3, RepKs.mono e h4⟩
end
theorem Reps.length : ∀ {ds : List D} {vs : List V}, Reps K G ds vs → ds.length = vs.length
  | [], _, h => by rw [Reps] at h; subst h; rfl
  | d :: ds, _, h => by
    rw [Reps] at h
    obtain ⟨v, r, h1, _, h3⟩ := h
    subst h1
    rw [List.length_cons, List.length_cons, Reps.length h3]
end

/-! ### what is owned -/
section
variable (K : PySem.W.Frag) (G H : Hp)
mutual
def Own : O → V → List Addr → Prop
  | .d x, v, fp => fp = [] ∧ Rep K G x v
  | .lst os, v, fp => ∃ a vs fq, v = .ref a ∧ fp = a :: fq ∧ H a = some (.lst vs) ∧ Owns os vs fq
  | .dct ks os, v, fp => ∃ a kvs fq, v = .ref a ∧ fp = a :: fq ∧ H a = some (.dK kvs) ∧ ks = kvs.map (fun p => keyD p.1) ∧ Owns os (kvs.map (·.2)) fq
  | .obj C ns os, v, fp => ∃ a dx vs fq, v = .ref a ∧ fp = a :: dx :: fq ∧ H a = some (.ins C dx (ns.zip vs)) ∧ H dx = some (.own a) ∧ ns.length = vs.length ∧ Owns os vs fq
def Owns : List O → List V → List Addr → Prop
  | [], vs, fp => vs = [] ∧ fp = []
  | o :: os, vs, fp => ∃ v r f1 f2, vs = v :: r ∧ fp = f1 ++ f2 ∧ Own o v f1 ∧ Owns os r f2
end
end
section
variable {K : PySem.W.Frag} {G G' H H' : Hp}
mutual
theorem Own.frame (e : Same G G') : ∀ {o : O} {v : V} {fp : List Addr}, Own K G H o v fp → (∀ a ∈ fp, H' a = H a) → Own K G' H' o v fp
  | .d x, v, fp, h, k => by
    rw [Own] at h ⊢
    exact ⟨h.1, Rep.mono e h.2⟩
  | .lst os, v, fp, h, k => by
    rw [Own] at h ⊢
    obtain ⟨a, vs, fq, h1, h2, h3, h4⟩ := h
    subst h2
    exact ⟨a, vs, fq, h1, rfl, by rw [k a List.mem_cons_self]; exact h3, Owns.frame e h4 fun b hb => k b (List.mem_cons_of_mem _ hb)⟩
  | .dct ks os, v, fp, h, k => by
    rw [Own] at h ⊢
    obtain ⟨a, vs, fq, h1, h2, h3, h4, h5⟩ := h
    subst h2
    exact ⟨a, vs, fq, h1, rfl, by rw [k a List.mem_cons_self]; exact h3, h4, Owns.frame e h5 fun b hb => k b (List.mem_cons_of_mem _ hb)⟩
  | .obj C ns os, v, fp, h, k => by
    rw [Own] at h ⊢
    obtain ⟨a, dx, vs, fq, h1, h2, h3, h4, h5, h6⟩ := h
    subst h2
    exact ⟨a, dx, vs, fq, h1, rfl, by rw [k a List.mem_cons_self]; exact h3, by rw [k dx (List.mem_cons_of_mem _ List.mem_cons_self)]; exact h4, h5, Owns.frame e h6 fun b hb => k b (List.mem_cons_of_mem _ (List.mem_cons_of_mem _ hb))⟩
theorem Owns.frame (e : Same G G') : ∀ {os : List O} {vs : List V} {fp : List Addr}, Owns K G H os vs fp → (∀ a ∈ fp, H' a = H a) → Owns K G' H' os vs fp
  | [], _, _, h, k => by rw [Owns] at h ⊢; exact h
  | o :: os, _, _, h, k => by
    rw [Owns] at h ⊢
    obtain ⟨v, r, f1, f2, h1, h2, h3, h4⟩ := h
    subst h2
    exact ⟨v, r, f1, f2, h1, rfl, Own.frame e h3 fun b hb => k b (List.mem_append_left _ hb), Owns.frame e h4 fun b hb => k b (List.mem_append_right _ hb)⟩
end
/-- G with what H has at the addresses -/
def addG (G H : Hp) (fp : List Addr) : Hp := fun a => if a ∈ fp then H a else G a
theorem addG_same {fp : List Addr} (h : ∀ a ∈ fp, G a = none) : Same G (addG G H fp) := fun b o e => by
  unfold addG
  rw [if_neg fun hb => by rw [h b hb] at e; cases e]
  exact e
theorem addG_sub {fp fq : List Addr} (hs : ∀ a ∈ fp, a ∈ fq) (h : ∀ a ∈ fq, G a = none) : Same (addG G H fp) (addG G H fq) := fun b o e => by
  unfold addG at e ⊢
  by_cases hb : b ∈ fp
  · rw [if_pos hb] at e
    rw [if_pos (hs b hb)]; exact e
  · rw [if_neg hb] at e
    rw [if_neg fun hq => by rw [h b hq] at e; cases e]
    exact e
theorem Owns.length : ∀ {os : List O} {vs : List V} {fp : List Addr}, Owns K G H os vs fp → os.length = vs.length
  | [], _, _, h => by rw [Owns] at h; rw [h.1]; rfl
  | o :: os, _, _, h => by
    rw [Owns] at h
    obtain ⟨v, r, f1, f2, h1, h2, h3, h4⟩ := h
    subst h1
    rw [List.length_cons, List.length_cons, Owns.length h4]
theorem repKs_of : ∀ {ds : List D} {kvs : List (Key × V)}, Reps K G ds (kvs.map (·.2)) → RepKs K G ((kvs.map fun p => keyD p.1).zip ds) kvs
  | [], kvs, h => by
    rw [Reps] at h
    have e : kvs = [] := List.map_eq_nil_iff.mp h
    subst e
    show RepKs K G [] []
    rw [RepKs]
  | d :: ds, kvs, h => by
    rw [Reps] at h
    obtain ⟨v, r, h1, h2, h3⟩ := h
    cases kvs with
    | nil => cases h1
    | cons p kvs =>
      injection h1 with e1 e2
      subst e2
      show RepKs K G ((keyD p.1, d) :: (kvs.map fun p => keyD p.1).zip ds) (p :: kvs)
      rw [RepKs]
      exact ⟨p.1, v, kvs, by rw [← e1], rfl, h2, repKs_of h3⟩
mutual
/-- what is owned may be frozen -/
theorem Own.freeze : ∀ {o : O} {v : V} {fp : List Addr}, Own K G H o v fp → (∀ a ∈ fp, G a = none) → Rep K (addG G H fp) o.toD v
  | .d x, v, fp, h, k => by
    rw [Own] at h
    rw [O.toD]
    exact Rep.mono (addG_same k) h.2
  | .lst os, v, fp, h, k => by
    rw [Own] at h
    obtain ⟨a, vs, fq, h1, h2, h3, h4⟩ := h
    subst h2
    rw [O.toD, Rep]
    refine ⟨a, vs, h1, .inl (.inl ?_), ?_⟩
    · unfold addG; rw [if_pos List.mem_cons_self]; exact h3
    · exact Reps.mono (addG_sub (fun b hb => List.mem_cons_of_mem _ hb) k) (Owns.freeze h4 fun b hb => k b (List.mem_cons_of_mem _ hb))
  | .dct ks os, v, fp, h, k => by
    rw [Own] at h
    obtain ⟨a, kvs, fq, h1, h2, h3, h4, h5⟩ := h
    subst h2 h4
    rw [O.toD, Rep]
    refine ⟨a, kvs, h1, .inl ?_, ?_⟩
    · unfold addG; rw [if_pos List.mem_cons_self]; exact h3
    · exact repKs_of (Reps.mono (addG_sub (fun b hb => List.mem_cons_of_mem _ hb) k) (Owns.freeze h5 fun b hb => k b (List.mem_cons_of_mem _ hb)))
  | .obj C ns os, v, fp, h, k => by
    rw [Own] at h
    obtain ⟨a, dx, vs, fq, h1, h2, h3, h4, h5, h6⟩ := h
    subst h2
    rw [O.toD, Rep]
    refine ⟨a, dx, vs, h1, ?_, ?_, h5, ?_⟩
    · unfold addG; rw [if_pos List.mem_cons_self]; exact h3
    · unfold addG; rw [if_pos (List.mem_cons_of_mem _ List.mem_cons_self)]; exact h4
    · exact Reps.mono (addG_sub (fun b hb => List.mem_cons_of_mem _ (List.mem_cons_of_mem _ hb)) k) (Owns.freeze h6 fun b hb => k b (List.mem_cons_of_mem _ (List.mem_cons_of_mem _ hb)))
theorem Owns.freeze : ∀ {os : List O} {vs : List V} {fp : List Addr}, Owns K G H os vs fp → (∀ a ∈ fp, G a = none) → Reps K (addG G H fp) (O.toDs os) vs
  | [], _, _, h, k => by
    rw [Owns] at h
    rw [O.toDs, Reps]
    exact h.1
  | o :: os, _, _, h, k => by
    rw [Owns] at h
    obtain ⟨v, r, f1, f2, h1, h2, h3, h4⟩ := h
    subst h2
    rw [O.toDs, Reps]
    exact ⟨v, r, h1, Rep.mono (addG_sub (fun b hb => List.mem_append_left _ hb) k) (Own.freeze h3 fun b hb => k b (List.mem_append_left _ hb)),
      Reps.mono (addG_sub (fun b hb => List.mem_append_right _ hb) k) (Owns.freeze h4 fun b hb => k b (List.mem_append_right _ hb))⟩
end
end

/-! ### a list of what is held -/
inductive It where
  | rep (o : O) (v : V) | raw (a : Addr) (u : HO)
section
variable (K : PySem.W.Frag)
def Itm (G H : Hp) : It → List Addr → Prop
  | .rep o v, fp => Own K G H o v fp
  | .raw a u, fp => fp = [a] ∧ H a = some u
def Sep (G H : Hp) : List It → List Addr → Prop
  | [], fp => fp = []
  | x :: L, fp => ∃ f1 f2, fp = f1 ++ f2 ∧ Itm K G H x f1 ∧ Sep G H L f2
/-- the items are held in H, apart from one another -/
def St (H : Hp) (L : List It) : Prop := ∃ G fp, Same G H ∧ Sep K G H L fp ∧ fp.Nodup ∧ ∀ a ∈ fp, G a = none
/-- items of values -/
def reps : List O → List V → List It
  | o :: os, v :: vs => .rep o v :: reps os vs
  | _, _ => []
end
section
variable {K : PySem.W.Frag} {G G' H H' : Hp} {L L' : List It} {x y : It}
theorem Itm.frame (e : Same G G') {fp : List Addr} (h : Itm K G H x fp) (k : ∀ a ∈ fp, H' a = H a) : Itm K G' H' x fp := by
  cases x with
  | rep o v => exact Own.frame e h k
  | raw a u =>
    obtain ⟨h1, h2⟩ := h
    subst h1
    exact ⟨rfl, by rw [k a List.mem_cons_self]; exact h2⟩
theorem Itm.there {fp : List Addr} (h : Itm K G H x fp) : ∀ a ∈ fp, H a ≠ none := by
  have key : (∀ (o : O) (v : V) (fp : List Addr), Own K G H o v fp → ∀ a ∈ fp, H a ≠ none) := by
    intro o
    apply O.rec (motive_1 := fun o => ∀ (v : V) (fp : List Addr), Own K G H o v fp → ∀ a ∈ fp, H a ≠ none)
      (motive_2 := fun os => ∀ (vs : List V) (fp : List Addr), Owns K G H os vs fp → ∀ a ∈ fp, H a ≠ none)
    · intro x v fp h a ha
      rw [Own] at h; rw [h.1] at ha; cases ha
    · intro os ih v fp h a ha
      rw [Own] at h
      obtain ⟨b, vs, fq, h1, h2, h3, h4⟩ := h
      subst h2
      rcases List.mem_cons.mp ha with rfl | ha
      · rw [h3]; intro z; cases z
      · exact ih _ _ h4 a ha
    · intro ks os ih v fp h a ha
      rw [Own] at h
      obtain ⟨b, vs, fq, h1, h2, h3, h4, h5⟩ := h
      subst h2
      rcases List.mem_cons.mp ha with rfl | ha
      · rw [h3]; intro z; cases z
      · exact ih _ _ h5 a ha
    · intro C ns os ih v fp h a ha
      rw [Own] at h
      obtain ⟨b, dx, vs, fq, h1, h2, h3, h4, h5, h6⟩ := h
      subst h2
      rcases List.mem_cons.mp ha with rfl | ha
      · rw [h3]; intro z; cases z
      · rcases List.mem_cons.mp ha with rfl | ha
        · rw [h4]; intro z; cases z
        · exact ih _ _ h6 a ha
    · intro vs fp h a ha
      rw [Owns] at h; rw [h.2] at ha; cases ha
    · intro o os i1 i2 vs fp h a ha
      rw [Owns] at h
      obtain ⟨v, r, f1, f2, h1, h2, h3, h4⟩ := h
      subst h2
      rcases List.mem_append.mp ha with ha | ha
      · exact i1 _ _ h3 a ha
      · exact i2 _ _ h4 a ha
  cases x with
  | rep o v => exact key o v fp h
  | raw a u =>
    obtain ⟨h1, h2⟩ := h
    subst h1
    intro b hb
    rw [List.mem_singleton.mp hb, h2]; intro z; cases z
theorem Sep.frame (e : Same G G') : ∀ {L : List It} {fp : List Addr}, Sep K G H L fp → (∀ a ∈ fp, H' a = H a) → Sep K G' H' L fp
  | [], _, h, _ => h
  | x :: L, _, h, k => by
    obtain ⟨f1, f2, h1, h2, h3⟩ := h
    subst h1
    exact ⟨f1, f2, rfl, Itm.frame e h2 fun a ha => k a (List.mem_append_left _ ha), Sep.frame e h3 fun a ha => k a (List.mem_append_right _ ha)⟩
theorem Sep.there : ∀ {L : List It} {fp : List Addr}, Sep K G H L fp → ∀ a ∈ fp, H a ≠ none
  | [], fp, h, a, ha => by
    have h' : fp = [] := h
    rw [h'] at ha; cases ha
  | x :: L, _, h, a, ha => by
    obtain ⟨f1, f2, h1, h2, h3⟩ := h
    subst h1
    rcases List.mem_append.mp ha with ha | ha
    · exact Itm.there h2 a ha
    · exact Sep.there h3 a ha
theorem Sep.app : ∀ {L L' : List It} {fp fq : List Addr}, Sep K G H L fp → Sep K G H L' fq → Sep K G H (L ++ L') (fp ++ fq)
  | [], _, _, _, h, h' => by
    have e := h
    unfold Sep at e
    subst e
    exact h'
  | x :: L, _, _, _, h, h' => by
    obtain ⟨f1, f2, h1, h2, h3⟩ := h
    subst h1
    exact ⟨f1, _, (List.append_assoc ..), h2, Sep.app h3 h'⟩
theorem Sep.split : ∀ {L L' : List It} {fp : List Addr}, Sep K G H (L ++ L') fp → ∃ f1 f2, fp = f1 ++ f2 ∧ Sep K G H L f1 ∧ Sep K G H L' f2
  | [], _, fp, h => ⟨[], fp, rfl, rfl, h⟩
  | x :: L, _, _, h => by
    obtain ⟨f1, f2, h1, h2, h3⟩ := h
    obtain ⟨g1, g2, e, q1, q2⟩ := Sep.split h3
    subst e h1
    exact ⟨f1 ++ g1, g2, (List.append_assoc ..).symm, ⟨f1, g1, rfl, h2, q1⟩, q2⟩
theorem Sep.perm (p : L.Perm L') : ∀ {fp : List Addr}, Sep K G H L fp → ∃ fq, fq.Perm fp ∧ Sep K G H L' fq := by
  induction p with
  | nil => intro fp h; exact ⟨fp, .refl _, h⟩
  | cons x _ ih =>
    intro fp h
    obtain ⟨f1, f2, h1, h2, h3⟩ := h
    obtain ⟨fq, q1, q2⟩ := ih h3
    exact ⟨f1 ++ fq, by rw [h1]; exact q1.append_left f1, f1, fq, rfl, h2, q2⟩
  | swap x y l =>
    intro fp h
    obtain ⟨f1, f2, h1, h2, g1, g2, e1, e2, e3⟩ := h
    refine ⟨g1 ++ (f1 ++ g2), ?_, g1, f1 ++ g2, rfl, e2, f1, g2, rfl, h2, e3⟩
    rw [h1, e1, ← List.append_assoc, ← List.append_assoc]
    exact (List.perm_append_comm).append_right g2
  | trans _ _ i1 i2 =>
    intro fp h
    obtain ⟨f1, p1, h1⟩ := i1 h
    obtain ⟨f2, p2, h2⟩ := i2 h1
    exact ⟨f2, p2.trans p1, h2⟩

theorem St.perm (p : L.Perm L') (h : St K H L) : St K H L' := by
  obtain ⟨G, fp, s, h1, nd, hg⟩ := h
  obtain ⟨fq, q, h2⟩ := Sep.perm p h1
  exact ⟨G, fq, s, h2, q.nodup_iff.mpr nd, fun a ha => hg a (q.mem_iff.mp ha)⟩
theorem St.drop (h : St K H (x :: L)) : St K H L := by
  obtain ⟨G, fp, s, ⟨f1, f2, e, h2, h3⟩, nd, hg⟩ := h
  subst e
  exact ⟨G, f2, s, h3, (List.nodup_append.mp nd).2.1, fun a ha => hg a (List.mem_append_right _ ha)⟩
theorem St.dropN : ∀ {L1 L2 : List It}, St K H (L1 ++ L2) → St K H L2
  | [], _, h => h
  | _ :: L1, _, h => St.dropN (L1 := L1) h.drop
theorem St.sub (p : L'.Sublist L) (h : St K H L) : St K H L' := by
  obtain ⟨l1, q⟩ := p.exists_perm_append
  exact St.dropN (L1 := l1) (St.perm (q.trans List.perm_append_comm) h)
theorem St.dup {x : D} {v : V} (h : St K H (.rep (.d x) v :: L)) : St K H (.rep (.d x) v :: .rep (.d x) v :: L) := by
  obtain ⟨G, fp, s, ⟨f1, f2, e, h2, h3⟩, nd, hg⟩ := h
  have h2' : Own K G H (.d x) v f1 := h2
  rw [Own] at h2'
  obtain ⟨e1, r⟩ := h2'
  subst e1
  have z : Own K G H (.d x) v [] := by rw [Own]; exact ⟨rfl, r⟩
  exact ⟨G, fp, s, ⟨[], f2, e, z, [], f2, rfl, z, h3⟩, nd, hg⟩
/-- a flat value -/
def flatD : D → V → Prop
  | .non, v => v = .non
  | .bl b, v => v = .bl b
  | .int i, v => v = .int i
  | .str x, v => v = .str x
  | _, _ => False
theorem flat_rep {d : D} {v : V} (h : flatD d v) : Rep K G d v := by
  cases d <;> first | (rw [Rep]; exact h) | exact h.elim
theorem St.flat {d : D} {v : V} (f : flatD d v) (h : St K H L) : St K H (.rep (.d d) v :: L) := by
  obtain ⟨G, fp, s, h1, nd, hg⟩ := h
  exact ⟨G, fp, s, ⟨[], fp, rfl, by show Own K G H (.d d) v []; rw [Own]; exact ⟨rfl, flat_rep f⟩, h1⟩, nd, hg⟩
theorem St.freeze {o : O} {v : V} (h : St K H (.rep o v :: L)) : St K H (.rep (.d o.toD) v :: L) := by
  obtain ⟨G, fp, s, ⟨f1, f2, e, h2, h3⟩, nd, hg⟩ := h
  subst e
  have h2' : Own K G H o v f1 := h2
  have g1 : ∀ a ∈ f1, G a = none := fun a ha => hg a (List.mem_append_left _ ha)
  have r := Own.freeze h2' g1
  refine ⟨addG G H f1, f2, fun b u q => ?_, ⟨[], f2, rfl, ?_, Sep.frame (addG_same g1) h3 fun _ _ => rfl⟩, (List.nodup_append.mp nd).2.1, fun a ha => ?_⟩
  · unfold addG at q
    by_cases hb : b ∈ f1
    · rw [if_pos hb] at q; exact q
    · rw [if_neg hb] at q; exact s b u q
  · show Own K _ H (.d o.toD) v []
    rw [Own]; exact ⟨rfl, r⟩
  · unfold addG
    rw [if_neg fun hb => (List.nodup_append.mp nd).2.2 a hb a ha rfl]
    exact hg a (List.mem_append_right _ ha)
/-- a new object -/
theorem St.alloc {p : Addr} {u : HO} (hp : H p = none) (h : St K H L) : St K (upd H p u) (.raw p u :: L) := by
  obtain ⟨G, fp, s, h1, nd, hg⟩ := h
  have hnp : p ∉ fp := fun hb => Sep.there h1 p hb hp
  have gp : G p = none := by
    cases q : G p with
    | none => rfl
    | some o => rw [s p o q] at hp; cases hp
  refine ⟨G, p :: fp, fun b o q => ?_, ⟨[p], fp, rfl, ⟨rfl, upd_same⟩, Sep.frame (Same.refl G) h1 fun a ha => upd_ne fun e => hnp (e ▸ ha)⟩, List.nodup_cons.mpr ⟨hnp, nd⟩, fun a ha => ?_⟩
  · rw [upd_ne fun e => by rw [e, gp] at q; cases q]
    exact s b o q
  · rcases List.mem_cons.mp ha with rfl | ha
    · exact gp
    · exact hg a ha
/-- an owned object is written -/
theorem St.write {p : Addr} {u u' : HO} (h : St K H (.raw p u :: L)) : St K (upd H p u') (.raw p u' :: L) := by
  obtain ⟨G, fp, s, ⟨f1, f2, e, ⟨e1, h2⟩, h3⟩, nd, hg⟩ := h
  subst e1 e
  have nd' := List.nodup_cons.mp nd
  have gp : G p = none := hg p List.mem_cons_self
  refine ⟨G, p :: f2, fun b o q => ?_, ⟨[p], f2, rfl, ⟨rfl, upd_same⟩, Sep.frame (Same.refl G) h3 fun a ha => upd_ne fun e => nd'.1 (e ▸ ha)⟩, nd, hg⟩
  rw [upd_ne fun e => by rw [e, gp] at q; cases q]
  exact s b o q
theorem St.raw_at {p : Addr} {u : HO} (h : St K H (.raw p u :: L)) : H p = some u := by
  obtain ⟨G, fp, s, ⟨f1, f2, e, ⟨e1, h2⟩, h3⟩, nd, hg⟩ := h
  exact h2
/-- a garbage object -/
theorem St.grow {p : Addr} {u : HO} (hp : H p = none) (h : St K H L) : St K (upd H p u) L := (St.alloc hp h).drop
/-- a written heap, of which all that was there is kept -/
theorem St.same (e : Same H H') (h : St K H L) : St K H' L := by
  obtain ⟨G, fp, s, h1, nd, hg⟩ := h
  refine ⟨G, fp, Same.trans s e, Sep.frame (Same.refl G) h1 fun a ha => ?_, nd, hg⟩
  cases q : H a with
  | none => exact absurd q (Sep.there h1 a ha)
  | some o => exact e a o q

theorem sep_reps : ∀ {os : List O} {vs : List V} {fp : List Addr}, Owns K G H os vs fp → Sep K G H (reps os vs) fp
  | [], _, _, h => by
    rw [Owns] at h
    rw [h.1, h.2]; exact rfl
  | o :: os, _, _, h => by
    rw [Owns] at h
    obtain ⟨v, r, f1, f2, h1, h2, h3, h4⟩ := h
    subst h1 h2
    exact ⟨f1, f2, rfl, h3, sep_reps h4⟩
theorem owns_reps : ∀ {os : List O} {vs : List V} {fp : List Addr}, os.length = vs.length → Sep K G H (reps os vs) fp → Owns K G H os vs fp
  | [], [], fp, _, h => by
    rw [Owns]
    exact ⟨rfl, h⟩
  | o :: os, v :: vs, fp, e, h => by
    obtain ⟨f1, f2, h1, h2, h3⟩ := h
    rw [Owns]
    exact ⟨v, vs, f1, f2, rfl, h1, h2, owns_reps (by simpa using e) h3⟩
  | [], _ :: _, _, e, _ => by cases e
  | _ :: _, [], _, e, _ => by cases e
/-- an owned list taken apart -/
theorem St.open_lst {os : List O} {v : V} (h : St K H (.rep (.lst os) v :: L)) : ∃ a vs, v = .ref a ∧ os.length = vs.length ∧ St K H (.raw a (.lst vs) :: (reps os vs ++ L)) := by
  obtain ⟨G, fp, s, ⟨f1, f2, e, h2, h3⟩, nd, hg⟩ := h
  have h2' : Own K G H (.lst os) v f1 := h2
  rw [Own] at h2'
  obtain ⟨a, vs, fq, h1, e2, h4, h5⟩ := h2'
  subst e2 e
  refine ⟨a, vs, h1, Owns.length h5, G, _, s, ⟨[a], fq ++ f2, rfl, ⟨rfl, h4⟩, Sep.app (sep_reps h5) h3⟩, nd, hg⟩
/-- .. and put together -/
theorem St.close_lst {os : List O} {a : Addr} {vs : List V} (hl : os.length = vs.length) (h : St K H (.raw a (.lst vs) :: (reps os vs ++ L))) : St K H (.rep (.lst os) (.ref a) :: L) := by
  obtain ⟨G, fp, s, ⟨f1, f2, e, ⟨e1, h2⟩, h3⟩, nd, hg⟩ := h
  obtain ⟨g1, g2, e2, q1, q2⟩ := Sep.split h3
  subst e1 e2 e
  refine ⟨G, _, s, ⟨a :: g1, g2, rfl, ?_, q2⟩, nd, hg⟩
  show Own K G H (.lst os) (.ref a) (a :: g1)
  rw [Own]
  exact ⟨a, vs, g1, rfl, rfl, h2, owns_reps hl q1⟩
theorem St.open_dct {ks : List D} {os : List O} {v : V} (h : St K H (.rep (.dct ks os) v :: L)) : ∃ a kvs, v = .ref a ∧ ks = kvs.map (fun p => keyD p.1) ∧ os.length = (kvs.map (·.2)).length ∧ St K H (.raw a (.dK kvs) :: (reps os (kvs.map (·.2)) ++ L)) := by
  obtain ⟨G, fp, s, ⟨f1, f2, e, h2, h3⟩, nd, hg⟩ := h
  have h2' : Own K G H (.dct ks os) v f1 := h2
  rw [Own] at h2'
  obtain ⟨a, kvs, fq, h1, e2, h4, h5, h6⟩ := h2'
  subst e2 e
  exact ⟨a, kvs, h1, h5, Owns.length h6, G, _, s, ⟨[a], fq ++ f2, rfl, ⟨rfl, h4⟩, Sep.app (sep_reps h6) h3⟩, nd, hg⟩
theorem St.close_dct {os : List O} {a : Addr} {kvs : List (Key × V)} (hl : os.length = (kvs.map (·.2)).length) (h : St K H (.raw a (.dK kvs) :: (reps os (kvs.map (·.2)) ++ L))) : St K H (.rep (.dct (kvs.map fun p => keyD p.1) os) (.ref a) :: L) := by
  obtain ⟨G, fp, s, ⟨f1, f2, e, ⟨e1, h2⟩, h3⟩, nd, hg⟩ := h
  obtain ⟨g1, g2, e2, q1, q2⟩ := Sep.split h3
  subst e1 e2 e
  refine ⟨G, _, s, ⟨a :: g1, g2, rfl, ?_, q2⟩, nd, hg⟩
  show Own K G H (.dct _ os) (.ref a) (a :: g1)
  rw [Own]
  exact ⟨a, kvs, g1, rfl, rfl, h2, rfl, owns_reps hl q1⟩
theorem reps_leaf {ds : List D} {vs : List V} {fp : List Addr} (h : Sep K G H (reps (leaf ds) vs) fp) (hl : ds.length = vs.length) : fp = [] ∧ Reps K G ds vs := by
  induction ds generalizing vs fp with
  | nil =>
    cases vs with
    | nil => rw [Reps]; exact ⟨h, rfl⟩
    | cons => cases hl
  | cons d ds ih =>
    cases vs with
    | nil => cases hl
    | cons v vs =>
      obtain ⟨f1, f2, e, h2, h3⟩ := h
      have h2' : Own K G H (.d d) v f1 := h2
      rw [Own] at h2'
      obtain ⟨e1, r⟩ := h2'
      obtain ⟨e2, rs⟩ := ih (vs := vs) (fp := f2) h3 (by simpa using hl)
      subst e1 e2
      refine ⟨e, ?_⟩
      rw [Reps]
      exact ⟨v, vs, rfl, r, rs⟩
theorem leaf_reps : ∀ {ds : List D} {vs : List V}, Reps K G ds vs → Sep K G H (reps (leaf ds) vs) []
  | [], _, h => by
    rw [Reps] at h; subst h; exact rfl
  | d :: ds, _, h => by
    rw [Reps] at h
    obtain ⟨v, r, h1, h2, h3⟩ := h
    subst h1
    refine ⟨[], [], rfl, ?_, leaf_reps h3⟩
    show Own K G H (.d d) v []
    rw [Own]; exact ⟨rfl, h2⟩
/-- a new object of frozen parts becomes frozen: a tuple -/
theorem St.close_tup {ds : List D} {a : Addr} {vs : List V} (hl : ds.length = vs.length) (h : St K H (.raw a (.tup vs) :: (reps (leaf ds) vs ++ L))) : St K H (.rep (.d (.tup ds)) (.ref a) :: L) := by
  obtain ⟨G, fp, s, ⟨f1, f2, e, ⟨e1, h2⟩, h3⟩, nd, hg⟩ := h
  obtain ⟨g1, g2, e2, q1, q2⟩ := Sep.split h3
  obtain ⟨e3, r⟩ := reps_leaf q1 hl
  subst e1 e3 e2 e
  have gs : ∀ b ∈ [a], G b = none := fun b hb => hg b (by rw [List.mem_singleton.mp hb]; exact List.mem_cons_self)
  refine ⟨addG G H [a], _, fun b u q => ?_, ⟨[], _, rfl, ?_, Sep.frame (addG_same gs) q2 fun _ _ => rfl⟩, (List.nodup_cons.mp nd).2, fun b hb => ?_⟩
  · unfold addG at q
    by_cases hb : b ∈ [a]
    · rw [if_pos hb] at q; exact q
    · rw [if_neg hb] at q; exact s b u q
  · show Own K _ H (.d (.tup ds)) (.ref a) []
    rw [Own, Rep]
    refine ⟨rfl, a, vs, rfl, .inl (.inl ?_), Reps.mono (addG_same gs) r⟩
    unfold addG; rw [if_pos List.mem_cons_self]; exact h2
  · unfold addG
    rw [if_neg fun hb' => (List.nodup_cons.mp nd).1 (by rw [← List.mem_singleton.mp hb']; exact hb)]
    exact hg b (List.mem_cons_of_mem _ hb)
/-- a frozen list or tuple read: its parts -/
theorem St.read_lst {ds : List D} {v : V} (h : St K H (.rep (.d (.lst ds)) v :: L)) : ∃ a vs, v = .ref a ∧ SqL K H a vs ∧ ds.length = vs.length ∧ St K H (reps (leaf ds) vs ++ (.rep (.d (.lst ds)) v :: L)) := by
  obtain ⟨G, fp, s, ⟨f1, f2, e, h2, h3⟩, nd, hg⟩ := h
  have h2' : Own K G H (.d (.lst ds)) v f1 := h2
  have h2s := h2'
  rw [Own, Rep] at h2'
  obtain ⟨e1, a, vs, h4, h5, h6⟩ := h2'
  subst e1 e
  exact ⟨a, vs, h4, Same.seq s h5, h6.length, G, _, s, Sep.app (leaf_reps h6) ⟨[], _, rfl, h2s, h3⟩, nd, hg⟩
theorem St.read_tup {ds : List D} {v : V} (h : St K H (.rep (.d (.tup ds)) v :: L)) : ∃ a vs, v = .ref a ∧ SqT K H a vs ∧ ds.length = vs.length ∧ St K H (reps (leaf ds) vs ++ (.rep (.d (.tup ds)) v :: L)) := by
  obtain ⟨G, fp, s, ⟨f1, f2, e, h2, h3⟩, nd, hg⟩ := h
  have h2' : Own K G H (.d (.tup ds)) v f1 := h2
  have h2s := h2'
  rw [Own, Rep] at h2'
  obtain ⟨e1, a, vs, h4, h5, h6⟩ := h2'
  subst e1 e
  exact ⟨a, vs, h4, Same.seqT s h5, h6.length, G, _, s, Sep.app (leaf_reps h6) ⟨[], _, rfl, h2s, h3⟩, nd, hg⟩
/-- an owned list of frozen parts, read -/
theorem St.look_lst {ds : List D} {v : V} (h : St K H (.rep (.lst (leaf ds)) v :: L)) : ∃ a vs, v = .ref a ∧ H a = some (.lst vs) ∧ ds.length = vs.length ∧ St K H (reps (leaf ds) vs ++ (.rep (.lst (leaf ds)) v :: L)) := by
  obtain ⟨G, fp, s, ⟨f1, f2, e, h2, h3⟩, nd, hg⟩ := h
  have h2' : Own K G H (.lst (leaf ds)) v f1 := h2
  have h2s := h2'
  rw [Own] at h2'
  obtain ⟨a, vs, fq, h1, e2, h4, h5⟩ := h2'
  have hl := h5.length
  rw [List.length_map] at hl
  obtain ⟨e3, r⟩ := reps_leaf (sep_reps h5) hl
  exact ⟨a, vs, h1, h4, hl, G, fp, s, Sep.app (fp := []) (leaf_reps r) ⟨f1, f2, e, h2s, h3⟩, nd, hg⟩
/-- what the head item is, over a whole heap: for rules that only look -/
theorem St.repH {o : O} {v : V} (h : St K H (.rep o v :: L)) : Rep K H o.toD v := by
  obtain ⟨G, fp, s, ⟨f1, f2, e, h2, h3⟩, nd, hg⟩ := h.freeze
  have h2' : Own K G H (.d o.toD) v f1 := h2
  rw [Own] at h2'
  exact Rep.mono s h2'.2
end
end BM

set_option Elab.async false
set_option linter.all false
set_option maxRecDepth 100000
set_option maxHeartbeats 4000000
/-! BM, part 2: the evaluator's words: plain Lean. -/
namespace BM
open PySem PySem.Spec PyProof.Rows L2

def O.leafs : List O → Option (List D)
  | [] => some []
  | .d x :: r => match O.leafs r with
    | some l => some (x :: l)
    | none => none
  | _ :: _ => none
/-- what is to be read at once: the root may be owned, its parts are frozen -/
def O.flat : O → Option D
  | .d x => some x
  | .lst os => match O.leafs os with
    | some l => some (.lst l)
    | none => none
  | .dct ks os => match O.leafs os with
    | some l => some (.dct (ks.zip l))
    | none => none
  | .obj C ns os => match O.leafs os with
    | some l => some (.obj C ns l)
    | none => none
theorem leafs_eq : ∀ {os : List O} {l : List D}, O.leafs os = some l → os = leaf l
  | [], l, h => by
    have e : [] = l := Option.some.inj h
    subst e; rfl
  | .d x :: r, l, h => by
    rw [O.leafs] at h
    cases q : O.leafs r with
    | none => rw [q] at h; cases h
    | some m =>
      rw [q] at h
      have e : x :: m = l := Option.some.inj h
      subst e
      rw [leafs_eq q]; rfl
  | .lst _ :: _, _, h => by cases h
  | .dct _ _ :: _, _, h => by cases h
  | .obj _ _ _ :: _, _, h => by cases h
theorem leafs_leaf : ∀ l : List D, O.leafs (leaf l) = some l
  | [] => rfl
  | x :: r => by
    show (match O.leafs (leaf r) with | some l => some (x :: l) | none => none) = _
    rw [leafs_leaf r]

abbrev Env := List (Option O)
abbrev M (α : Type) := Env → Option (α × Env)
def mpure {α : Type} (a : α) : M α := fun s => some (a, s)
def mbind {α β : Type} (m : M α) (f : α → M β) : M β := fun s => match m s with
  | none => none
  | some (a, s') => f a s'
def mfail {α : Type} : M α := fun _ => none
theorem mbind_some {α β : Type} {m : M α} {f : α → M β} {s : Env} {r : β × Env} (h : mbind m f s = some r) : ∃ a s', m s = some (a, s') ∧ f a s' = some r := by
  unfold mbind at h
  cases e : m s with
  | none => rw [e] at h; cases h
  | some p => rw [e] at h; exact ⟨p.1, p.2, rfl, h⟩

/-! ### names, constants -/
/-- a name that holds plain data -/
def mVar (i : Nat) : M O := fun s => match s[i]? with
  | some (some (.d x)) => some (.d x, s)
  | _ => none
/-- a name that is read for good: frozen -/
def mFz (i : Nat) : M O := fun s => match s[i]? with
  | some (some o) => some (.d o.toD, s.set i (some (.d o.toD)))
  | _ => none
/-- a name's last use: it is moved -/
def mMv (i : Nat) : M O := fun s => match s[i]? with
  | some (some o) => some (o, s.set i none)
  | _ => none
def mC (d : D) : M O := mpure (.d d)

/-! ### operands -/
inductive Od where
  | val (d : D) | plc (i : Nat)
def mval (m : M O) : M Od := fun s => match m s with
  | some (o, s') => some (.val o.toD, s')
  | none => none
def mplc (i : Nat) : M Od := fun s => some (.plc i, s)
def Od.get (s : Env) : Od → Option D
  | .val d => some d
  | .plc i => match s[i]? with
    | some (some o) => o.flat
    | _ => none
def mods : List (M Od) → M (List Od)
  | [] => mpure []
  | m :: r => mbind m fun a => mbind (mods r) fun l => mpure (a :: l)
def odsGet (s : Env) : List Od → Option (List D)
  | [] => some []
  | a :: r => match a.get s, odsGet s r with
    | some d, some l => some (d :: l)
    | _, _ => none
def mops (ms : List (M Od)) : M (List D) := fun s => match mods ms s with
  | some (ods, s') => match odsGet s' ods with
    | some ds => some (ds, s')
    | none => none
  | none => none
/-- a pure operation over operands -/
def mOp (F : List D → Option O) (ms : List (M Od)) : M O := fun s => match mops ms s with
  | some (ds, s') => match F ds with
    | some o => some (o, s')
    | none => none
  | none => none
/-- .. as a test -/
def mTst (F : List D → Option Bool) (ms : List (M Od)) : M Bool := fun s => match mops ms s with
  | some (ds, s') => match F ds with
    | some b => some (b, s')
    | none => none
  | none => none
def bO (F : List D → Option Bool) : List D → Option O := fun ds => match F ds with
  | some b => some (.d (.bl b))
  | none => none

/-! ### argument lists, displays -/
def mArgs : List (M O) → M (List O)
  | [] => mpure []
  | m :: r => mbind m fun a => mbind (mArgs r) fun l => mpure (a :: l)
def mTup (ms : List (M O)) : M O := mbind (mArgs ms) fun os => mpure (.d (.tup (O.toDs os)))
def mLst (ms : List (M O)) : M O := mbind (mArgs ms) fun os => mpure (.lst os)

/-! ### tests, choices -/
def mIf {α : Type} (c : M Bool) (a b : M α) : M α := mbind c fun k => if k = true then a else b
def tAnd (a b : M Bool) : M Bool := mbind a fun k => if k = true then b else mpure false
def tOr (a b : M Bool) : M Bool := mbind a fun k => if k = true then mpure true else b
def tNot (a : M Bool) : M Bool := mbind a fun k => mpure (!k)
/-- truth of plain data -/
def truthD : D → Option Bool
  | .non => some false
  | .bl b => some b
  | .int i => some (i != 0)
  | .str y => if y.length ≤ sizeLine then some ((y.length : Int) != 0) else none
  | .tup l => some (!l.isEmpty)
  | .lst l => some (!l.isEmpty)
  | _ => none
def truth1 : List D → Option Bool
  | [d] => truthD d
  | _ => none
/-- x or y, x and y by truth -/
def mOr (a b : M O) : M O := mbind a fun o => match truthD o.toD with
  | some k => if k = true then mpure (.d o.toD) else b
  | none => mfail
def mAnd (a b : M O) : M O := mbind a fun o => match truthD o.toD with
  | some k => if k = true then b else mpure (.d o.toD)
  | none => mfail

/-! ### statements -/
inductive Fl where
  | nx | bk | ct | rt (o : O)
def mset (i : Nat) (o : O) : M Unit := fun s => if i < s.length then some ((), s.set i (some o)) else none
def wipeE (s : Env) : List Nat → Env
  | [] => s
  | v :: vs => (wipeE s vs).set v none
def mwipe (l : List Nat) : M Unit := fun s => some ((), wipeE s l)
/-- x = e, owned as it is -/
def sSetO (i : Nat) (m : M O) : M Fl := mbind m fun o => mbind (mset i o) fun _ => mpure .nx
/-- x = e, frozen -/
def sSet (i : Nat) (m : M O) : M Fl := mbind m fun o => mbind (mset i (.d o.toD)) fun _ => mpure .nx
def sExpr (m : M O) : M Fl := mbind m fun _ => mpure .nx
def sRet (m : M O) : M Fl := mbind m fun o => mpure (.rt o)
def sRetN : M Fl := mpure (.rt (.d .non))
def sPass : M Fl := mpure .nx
def sBreak : M Fl := mpure .bk
def sCont : M Fl := mpure .ct
def sIf (c : M Bool) (a b : M Fl) : M Fl := mIf c a b
def sSeq (a b : M Fl) : M Fl := mbind a fun f => match f with
  | .nx => b
  | f => mpure f
/-- targets of plain data -/
def gNm (i : Nat) : D → M Unit := fun d => mset i (.d d)
def gTs : List (D → M Unit) → List D → M Unit
  | [], [] => mpure ()
  | g :: gs, d :: ds => mbind (g d) fun _ => gTs gs ds
  | _, _ => mfail
def gTp (gs : List (D → M Unit)) : D → M Unit
  | .tup ds => gTs gs ds
  | _ => mfail
def sTgt (g : D → M Unit) (m : M O) : M Fl := mbind m fun o => mbind (g o.toD) fun _ => mpure .nx
def forL (g : D → M Unit) (body : M Fl) : List D → M Fl
  | [] => mpure .nx
  | d :: ds => mbind (g d) fun _ => mbind body fun f => match f with
    | .nx => forL g body ds
    | .ct => forL g body ds
    | .bk => mpure .nx
    | .rt o => mpure (.rt o)
def sFor (src : M (List D)) (g : D → M Unit) (body : M Fl) : M Fl := mbind src fun ds => forL g body ds
def whileL (c : M Bool) (body : M Fl) : Nat → M Fl
  | 0 => mfail
  | n + 1 => mbind c fun k => if k = true then mbind body fun f => match f with
      | .nx => whileL c body n
      | .ct => whileL c body n
      | .bk => mpure .nx
      | .rt o => mpure (.rt o)
    else mpure .nx

/-! ### comprehensions -/
def lcL (own : List Nat) (g : D → M Unit) (t : M Bool) (elt : M O) : List D → M (List O)
  | [] => mpure []
  | d :: ds => mbind (g d) fun _ => mbind t fun k => if k = true then
      mbind elt fun o => mbind (mwipe own) fun _ => mbind (lcL own g t elt ds) fun l => mpure (o :: l)
    else mbind (mwipe own) fun _ => lcL own g t elt ds
def mLc (own : List Nat) (src : M (List D)) (g : D → M Unit) (t : M Bool) (elt : M O) : M O :=
  mbind src fun ds => mbind (mwipe own) fun _ => mbind (lcL own g t elt ds) fun l => if l.length ≤ sizeLine then mpure (.lst l) else mfail
/-- two fors -/
def lcL2 (own own1 : List Nat) (g : D → M Unit) (t : M Bool) (src1 : M (List D)) (g1 : D → M Unit) (t1 : M Bool) (elt : M O) : List D → M (List O)
  | [] => mpure []
  | d :: ds => mbind (g d) fun _ => mbind t fun k => if k = true then
      mbind src1 fun ds1 => mbind (mwipe own1) fun _ => mbind (lcL own1 g1 t1 elt ds1) fun l1 => mbind (mwipe own) fun _ => mbind (lcL2 own own1 g t src1 g1 t1 elt ds) fun l => mpure (l1 ++ l)
    else mbind (mwipe own) fun _ => lcL2 own own1 g t src1 g1 t1 elt ds
def mLc2 (own own1 : List Nat) (src : M (List D)) (g : D → M Unit) (t : M Bool) (src1 : M (List D)) (g1 : D → M Unit) (t1 : M Bool) (elt : M O) : M O :=
  mbind src fun ds => mbind (mwipe own) fun _ => mbind (lcL2 own own1 g t src1 g1 t1 elt ds) fun l => if l.length ≤ sizeLine then mpure (.lst l) else mfail
def tYes : M Bool := mpure true

/-! ### defs -/
inductive Ar where
  | val (o : O) | plc (i : Nat)
def aval (m : M O) : M Ar := fun s => match m s with
  | some (o, s') => some (.val o, s')
  | none => none
def aplc (i : Nat) : M Ar := fun s => some (.plc i, s)
def mars : List (M Ar) → M (List Ar)
  | [] => mpure []
  | m :: r => mbind m fun a => mbind (mars r) fun l => mpure (a :: l)
/-- the arguments' values as they stand at the call; a place is taken out of its slot -/
def takeArs : List Ar → M (List O)
  | [] => mpure []
  | .val o :: r => mbind (takeArs r) fun l => mpure (o :: l)
  | .plc i :: r => fun s => match s[i]? with
    | some (some o) => match takeArs r (s.set i none) with
      | some (l, s') => some (o :: l, s')
      | none => none
    | _ => none
/-- what the call left is put back -/
def giveArs : List Ar → List O → M Unit
  | [], [] => mpure ()
  | .val _ :: r, _ :: l => giveArs r l
  | .plc i :: r, o :: l => fun s => if i < s.length then giveArs r l (s.set i (some o)) else none
  | _, _ => mfail
def mCall (f : List O → Option (O × List O)) (ms : List (M Ar)) : M O := mbind (mars ms) fun ars => mbind (takeArs ars) fun os => fun s => match f os with
  | none => none
  | some (r, outs) => match giveArs ars outs s with
    | none => none
    | some (_, s') => some (r, s')
/-- the last of the parameters -/
def outsOf (np : Nat) (s : Env) : Option (List O) := (s.take np).mapM id
/-- a def by its body: parameters first, then n more names -/
def callF (n : Nat) (body : M Fl) (os : List O) : Option (O × List O) := match body (os.map some ++ List.replicate n none) with
  | some (.rt o, s) => match outsOf os.length s with
    | some outs => some (o, outs)
    | none => none
  | some (.nx, s) => match outsOf os.length s with
    | some outs => some (.d .non, outs)
    | none => none
  | _ => none
/-- a def that changes none of its parameters -/
def callV (n : Nat) (body : M Fl) (os : List O) : Option (O × List O) := match body (os.map some ++ List.replicate n none) with
  | some (.rt o, _) => some (o, os.map fun o => .d o.toD)
  | some (.nx, _) => some (.d .non, os.map fun o => .d o.toD)
  | _ => none

/-! ### what changes an owned object -/
def idxAt (n : Nat) (k : D) : Option Nat := match k with
  | .int i => ixN n i
  | _ => none
def keyEq : D → D → Bool
  | .int i, .int j => i == j
  | .str x, .str y => x == y
  | _, _ => false
def idxKey (k : D) : List D → Option Nat
  | [] => none
  | x :: r => if keyEq x k = true then some 0 else match idxKey k r with
    | some j => some (j + 1)
    | none => none
/-- f at the end of a path -/
def atPath {β : Type} (f : O → Option (β × O)) : List D → O → Option (β × O)
  | [], o => f o
  | k :: ks, .lst os => match idxAt os.length k with
    | some j => match os[j]? with
      | some o => match atPath f ks o with
        | some (b, o') => some (b, .lst (os.set j o'))
        | none => none
      | none => none
    | none => none
  | k :: ks, .dct kd os => match idxKey k kd with
    | some j => match os[j]? with
      | some o => match atPath f ks o with
        | some (b, o') => some (b, .dct kd (os.set j o'))
        | none => none
      | none => none
    | none => none
  | _, _ => none
def mMut {β : Type} (i : Nat) (path : List D) (f : O → Option (β × O)) : M β := fun s => match s[i]? with
  | some (some o) => match atPath f path o with
    | some (b, o') => some (b, s.set i (some o'))
    | none => none
  | _ => none
def fApp (y : O) : O → Option (Unit × O)
  | .lst os => if os.length < sizeLine then some ((), .lst (os ++ [y])) else none
  | _ => none
def fPop : O → Option (O × O)
  | .lst os => match os.getLast? with
    | some y => some (y, .lst os.dropLast)
    | none => none
  | _ => none
def fPopAt (i : Int) : O → Option (O × O)
  | .lst os => match ixN os.length i with
    | some j => match os[j]? with
      | some y => if os.length ≤ sizeLine then some (y, .lst (os.eraseIdx j)) else none
      | none => none
    | none => none
  | _ => none
def fSetIx (k : D) (y : O) : O → Option (Unit × O)
  | .lst os => match idxAt os.length k with
    | some j => some ((), .lst (os.set j y))
    | none => none
  | .dct ks os => match idxKey k ks with
    | some j => some ((), .dct ks (os.set j y))
    | none => if os.length < sizeLine then some ((), .dct (ks ++ [k]) (os ++ [y])) else none
  | _ => none
end BM

set_option Elab.async false
set_option linter.all false
set_option maxRecDepth 100000
set_option maxHeartbeats 4000000
/-! BM, part 3: the judgements, and the rules of expressions. -/
namespace BM
open PySem PySem.Spec PyProof.Rows L2

/-! ### slots -/
inductive EnvR : Env → L2.St → List It → Prop
  | nil : EnvR [] [] []
  | no {env σ L x} : EnvR env σ L → EnvR (none :: env) (x :: σ) L
  | yes {env σ L o v} : EnvR env σ L → EnvR (some o :: env) (some v :: σ) (.rep o v :: L)
theorem EnvR.len {env : Env} {σ : L2.St} {L : List It} (h : EnvR env σ L) : env.length = σ.length := by
  induction h with
  | nil => rfl
  | no _ ih => simp [ih]
  | yes _ ih => simp [ih]
theorem EnvR.out {env : Env} {σ : L2.St} {L : List It} (h : EnvR env σ L) : ∀ {i : Nat} {o : O}, env[i]? = some (some o) → ∃ v L', σ[i]? = some (some v) ∧ EnvR (env.set i none) σ L' ∧ L.Perm (.rep o v :: L') := by
  induction h with
  | nil => intro i o e; simp at e
  | no h ih =>
    intro i o e
    cases i with
    | zero => simp at e
    | succ i =>
      obtain ⟨v, L', h1, h2, h3⟩ := ih (i := i) (o := o) (by simpa using e)
      exact ⟨v, L', by simpa using h1, .no h2, h3⟩
  | @yes env σ L o' v' h ih =>
    intro i o e
    cases i with
    | zero =>
      have e' : o' = o := by simpa using e
      subst e'
      exact ⟨v', L, rfl, .no h, .refl _⟩
    | succ i =>
      obtain ⟨v, L', h1, h2, h3⟩ := ih (i := i) (o := o) (by simpa using e)
      exact ⟨v, _, by simpa using h1, .yes h2, (h3.cons _).trans (.swap _ _ _)⟩
theorem EnvR.put {env : Env} {σ : L2.St} {L : List It} {o : O} {v : V} (h : EnvR env σ L) : ∀ {i : Nat}, i < env.length → ∃ L1 L2, EnvR (env.set i (some o)) (σ.set i (some v)) L1 ∧ L2.Sublist L ∧ L1.Perm (.rep o v :: L2) := by
  induction h with
  | nil => intro i e; simp at e
  | @no env σ L x h ih =>
    intro i e
    cases i with
    | zero => exact ⟨_, L, .yes h, .refl _, .refl _⟩
    | succ i =>
      obtain ⟨L1, L2, h1, h2, h3⟩ := ih (i := i) (by simpa using e)
      exact ⟨L1, L2, .no h1, h2, h3⟩
  | @yes env σ L o' v' h ih =>
    intro i e
    cases i with
    | zero => exact ⟨_, L, .yes h, .cons _ (.refl _), .refl _⟩
    | succ i =>
      obtain ⟨L1, L2, h1, h2, h3⟩ := ih (i := i) (by simpa using e)
      exact ⟨_, _, .yes h1, .cons₂ _ h2, (h3.cons _).trans (.swap _ _ _)⟩
theorem EnvR.wipe {env : Env} {σ : L2.St} {L : List It} {x : Option V} (h : EnvR env σ L) : ∀ {i : Nat}, ∃ L1, EnvR (env.set i none) (σ.set i x) L1 ∧ L1.Sublist L := by
  induction h with
  | nil => intro i; exact ⟨[], by simpa using EnvR.nil, .refl _⟩
  | no h ih =>
    intro i
    cases i with
    | zero => exact ⟨_, .no h, .refl _⟩
    | succ i =>
      obtain ⟨L1, h1, h2⟩ := ih (i := i)
      exact ⟨L1, .no h1, h2⟩
  | yes h ih =>
    intro i
    cases i with
    | zero => exact ⟨_, .no h, .cons _ (.refl _)⟩
    | succ i =>
      obtain ⟨L1, h1, h2⟩ := ih (i := i)
      exact ⟨_, .yes h1, .cons₂ _ h2⟩
/-- the state of a body: its slots and what is held beside them -/
def RS (K : PySem.W.Frag) (H : Hp) (env : Env) (σ : L2.St) (T : List It) : Prop := ∃ L, EnvR env σ L ∧ St K H (T ++ L)
section
variable {K : PySem.W.Frag} {H H' : Hp} {env : Env} {σ : L2.St} {T T' : List It} {i : Nat} {o : O} {v : V}
theorem RS.lift (f : ∀ L, St K H (T ++ L) → St K H' (T' ++ L)) (h : RS K H env σ T) : RS K H' env σ T' := by
  obtain ⟨L, h1, h2⟩ := h
  exact ⟨L, h1, f L h2⟩
theorem RS.len (h : RS K H env σ T) : env.length = σ.length := by
  obtain ⟨L, h1, h2⟩ := h
  exact h1.len
theorem RS.take (h : RS K H env σ T) (e : env[i]? = some (some o)) : ∃ v, σ[i]? = some (some v) ∧ RS K H (env.set i none) σ (.rep o v :: T) := by
  obtain ⟨L, h1, h2⟩ := h
  obtain ⟨v, L', q1, q2, q3⟩ := h1.out e
  exact ⟨v, q1, L', q2, h2.perm ((q3.append_left T).trans List.perm_middle)⟩
theorem RS.put (h : RS K H env σ (.rep o v :: T)) (hi : i < env.length) : RS K H (env.set i (some o)) (σ.set i (some v)) T := by
  obtain ⟨L, h1, h2⟩ := h
  obtain ⟨L1, L2, q1, q2, q3⟩ := h1.put (o := o) (v := v) hi
  refine ⟨L1, q1, (h2.sub (L' := .rep o v :: (T ++ L2)) ?_).perm (List.perm_middle.symm.trans (q3.symm.append_left T))⟩
  exact .cons₂ _ (q2.append_left T)
theorem RS.putSame (h : RS K H env σ (.rep o v :: T)) (hs : σ[i]? = some (some v)) : RS K H (env.set i (some o)) σ T := by
  have hi : i < env.length := by rw [h.len]; exact (List.getElem?_eq_some_iff.mp hs).1
  have q := h.put hi
  rw [show σ.set i (some v) = σ by
    obtain ⟨h1, h2⟩ := List.getElem?_eq_some_iff.mp hs
    rw [← h2]; exact List.set_getElem_self h1] at q
  exact q
theorem RS.wipe1 {x : Option V} (h : RS K H env σ T) : RS K H (env.set i none) (σ.set i x) T := by
  obtain ⟨L, h1, h2⟩ := h
  obtain ⟨L1, q1, q2⟩ := h1.wipe (i := i) (x := x)
  exact ⟨L1, q1, h2.sub (q2.append_left T)⟩
theorem RS.perm (p : T.Perm T') (h : RS K H env σ T) : RS K H env σ T' := h.lift fun L q => q.perm (p.append_right L)
theorem RS.drop {x : It} (h : RS K H env σ (x :: T)) : RS K H env σ T := h.lift fun L q => q.drop
theorem RS.dropN {T1 : List It} (h : RS K H env σ (T1 ++ T)) : RS K H env σ T := h.lift fun L q => by
  rw [List.append_assoc] at q
  exact q.dropN
theorem RS.same (e : Same H H') (h : RS K H env σ T) : RS K H' env σ T := h.lift fun L q => q.same e
theorem RS.freeze (h : RS K H env σ (.rep o v :: T)) : RS K H env σ (.rep (.d o.toD) v :: T) := h.lift fun L q => q.freeze
end

/-! ### the place of a code -/
structure Cfg where
  P : Program
  w : World
  K : PySem.W.Frag
  mg : Str → Option Value
  base : Heap
/-- the code's names, kinds, which may be stored as cells, room -/
structure Gm where
  cfg : Cfg
  N : List Str
  sc : List (Str × NameKind)
  fn : Str → Bool
  n : Nat
structure Gm.Ok (Γ : Gm) (X : Cx) : Prop where
  hP : X.prog = Γ.cfg.P
  hw : X.w = Γ.cfg.w
  hK : X.K = Γ.cfg.K
  hmg : X.mg = Γ.cfg.mg
  hbase : X.base = Γ.cfg.base
  hN : X.N = Γ.N
  hsc : X.env.scope.names = Γ.sc
  hkd : X.env.scope.kind = .function
  hfn : X.fn = Γ.fn
  calm : X.calm = true
  room : Room Γ.n X.A
  xe : X.xe = fun _ _ => False
  gd : X.A.guards = some []
/-- a comprehension's block within -/
def Gm.blk (Γ : Gm) (scope : Scope) : Gm := { Γ with
  sc := scope.names.map fun (n, k) => if (k == .free && Γ.sc.lookup n == some .cell) then (n, .cell) else (n, k)
  fn := fun x => scope.names.lookup x == some .cell }
theorem Gm.Ok.blk {Γ : Gm} {X : Cx} (h : Γ.Ok X) {s : Shared} {H : Hp} {scope : Scope} {C : Addr} {cl : List (Str × Addr)} {fp : List Addr} (hk : scope.kind = .function) : (Γ.blk scope).Ok (X.blk s H scope (compEnvC scope cl C X.env) fp) :=
  ⟨h.hP, h.hw, h.hK, h.hmg, h.hbase, h.hN, by
    show (relabel scope X.env).names = _
    unfold relabel Gm.blk
    have e : ∀ n, X.env.kindOf n = Γ.sc.lookup n := fun n => by
      show X.env.scope.names.lookup n = _
      rw [h.hsc]
    simp only [h.hkd, e, beq_self_eq_true, Bool.and_true], by
    show (relabel scope X.env).kind = _
    unfold relabel
    exact hk, rfl, h.calm, h.room, rfl, h.gd⟩
def Gm.vis (Γ : Gm) (x : Str) : Bool := match Γ.sc.lookup x with
  | some .local => true
  | some .cell => true
  | some .free => true
  | _ => false
def Gm.glo (Γ : Gm) (x : Str) : Bool := match Γ.sc.lookup x with
  | some .globalImplicit => true
  | _ => false
def Gm.sto (Γ : Gm) (x : Str) : Bool := match Γ.sc.lookup x with
  | some .local => true
  | some .cell => Γ.fn x
  | _ => false
theorem Gm.Ok.vis {Γ : Gm} {X : Cx} (h : Γ.Ok X) {x : Str} (e : Γ.vis x = true) : Vis X.env.scope x := by
  unfold Gm.vis at e
  unfold Vis
  rw [h.hsc]
  revert e
  cases Γ.sc.lookup x with
  | none => intro e; cases e
  | some k => cases k <;> simp
theorem Gm.Ok.glo {Γ : Gm} {X : Cx} (h : Γ.Ok X) {x : Str} (e : Γ.glo x = true) : Gl X x := by
  unfold Gm.glo at e
  show X.env.scope.names.lookup x = _
  rw [h.hsc]
  revert e
  cases Γ.sc.lookup x with
  | none => intro e; cases e
  | some k => cases k <;> simp
theorem Gm.Ok.sto {Γ : Gm} {X : Cx} (h : Γ.Ok X) {x : Str} (e : Γ.sto x = true) : L2.Loc X.env.scope x ∧ (X.fn x = true ∨ X.env.scope.names.lookup x = some .local) := by
  unfold Gm.sto at e
  unfold L2.Loc
  rw [h.hsc, h.hfn]
  revert e
  cases Γ.sc.lookup x with
  | none => intro e; cases e
  | some k => cases k <;> simp

/-! ### the readings that are left open -/
def WE (X : Cx) (e : Expr) : TE := fun σ H Q => ∃ t, PE X e t ∧ t σ H Q
theorem pe_best (X : Cx) (e : Expr) : PE X e (WE X e) := ⟨fun pins s σ H Q I ⟨_, h, q⟩ => h.run pins s σ H Q I q⟩
def WT (X : Cx) (e : Expr) : TT := fun σ H Q => ∃ t, PT X e t ∧ t σ H Q
theorem pt_best (X : Cx) (e : Expr) : PT X e (WT X e) := ⟨fun pins s σ H Q I ⟨_, h, q⟩ => h.run pins s σ H Q I q⟩
def WA (X : Cx) (es : List Expr) : TA := fun σ H Q => ∃ t, PA X es t ∧ t σ H Q
theorem pa_best (X : Cx) (es : List Expr) : PA X es (WA X es) := ⟨fun pos pins s σ H Q I ⟨_, h, q⟩ => h.run pos pins s σ H Q I q⟩
def WO (X : Cx) (f : Value → Value → Sem Value) : R2 := fun x y H Q => ∃ r, OpR X f r ∧ r x y H Q
theorem op_best (X : Cx) (f : Value → Value → Sem Value) : OpR X f (WO X f) := fun pins s σ H x y v u Q I rx ry ⟨_, h, q⟩ => h pins s σ H x y v u Q I rx ry q
def WU (X : Cx) (f : Value → Sem Value) : V → Hp → VK → Prop := fun x H Q => ∃ r, UnR X f r ∧ r x H Q
theorem un_best (X : Cx) (f : Value → Sem Value) : UnR X f (WU X f) := fun pins s σ H x v Q I rx ⟨_, h, q⟩ => h pins s σ H x v Q I rx q
def WC (X : Cx) (f : Value) : List V → Hp → VK → Prop := fun xs H Q => ∃ r, CallR X f r ∧ r xs H Q
theorem call_best (X : Cx) (f : Value) : CallR X f (WC X f) := fun pins s σ H xs us Q I r ⟨_, h, q⟩ => h pins s σ H xs us Q I r q
def WI (X : Cx) : R2 := fun x y H Q => ∃ r, IxR X r ∧ r x y H Q
theorem ix_best (X : Cx) : IxR X (WI X) := fun a b pins s σ H x y v u Q I rx ry ⟨_, h, q⟩ hs => h a b pins s σ H x y v u Q I rx ry q hs
def WM (X : Cx) (id : String) : V → List V → Hp → VK → Prop := fun x xs H Q => ∃ r, MtR X id r ∧ r x xs H Q
theorem mt_best (X : Cx) (id : String) : MtR X id (WM X id) := fun pins s σ H x xs v us Q I rx rs ⟨_, h, q⟩ => h pins s σ H x xs v us Q I rx rs q
def WL (X : Cx) : List Expr → L2.St → Hp → (List V → Hp → Prop) → Prop
  | [], _, H, Q => Q [] H
  | e :: es, σ, H, Q => WE X e σ H fun v H1 => WL X es σ H1 fun vs H2 => Q (v :: vs) H2
theorem WE.mono {X : Cx} {e : Expr} {σ : L2.St} {H : Hp} {Q Q' : VK} (h : WE X e σ H Q) (k : ∀ v H', Q v H' → Q' v H') : WE X e σ H Q' :=
  ⟨fun σ1 H1 R => σ1 = σ ∧ H1 = H ∧ ∀ v H', Q v H' → R v H', ⟨fun pins s σ1 H1 R I ⟨e1, e2, r⟩ => by
    subst e1 e2
    exact thn ((pe_best X e).run pins s σ1 H1 Q I h) fun u s' ⟨v, H', I', rv, q⟩ => ⟨v, H', I', rv, r v H' q⟩⟩, rfl, rfl, k⟩

/-! ### the judgements -/
structure Sd (Γ : Gm) (e : Expr) (m : M O) : Prop where
  run : ∀ X, Γ.Ok X → ∀ env o env', m env = some (o, env') → ∀ σ H T, RS Γ.cfg.K H env σ T → ∀ Q : VK, (∀ v H', RS Γ.cfg.K H' env' σ (.rep o v :: T) → Q v H') → WE X e σ H Q
structure SdT (Γ : Gm) (e : Expr) (m : M Bool) : Prop where
  run : ∀ X, Γ.Ok X → ∀ env b env', m env = some (b, env') → ∀ σ H T, RS Γ.cfg.K H env σ T → ∀ Q : Bool → Hp → Prop, (∀ H', RS Γ.cfg.K H' env' σ T → Q b H') → WT X e σ H Q
/-- an operand's own item -/
def Od.its : Od → V → List It
  | .val d, v => [.rep (.d d) v]
  | .plc _, _ => []
def Od.at (σ : L2.St) : Od → V → Prop
  | .val _, _ => True
  | .plc i, v => σ[i]? = some (some v)
structure Sod (Γ : Gm) (e : Expr) (m : M Od) : Prop where
  run : ∀ X, Γ.Ok X → ∀ env a env', m env = some (a, env') → ∀ σ H T, RS Γ.cfg.K H env σ T → ∀ Q : VK, (∀ v H', RS Γ.cfg.K H' env' σ (a.its v ++ T) → a.at σ v → Q v H') → WE X e σ H Q
/-- v is to be read as d -/
def Look (L : List It) (d : D) (v : V) : Prop := ∃ o, It.rep o v ∈ L ∧ o.flat = some d
inductive Looks (L : List It) : List D → List V → Prop
  | nil : Looks L [] []
  | cons {d ds v vs} : Look L d v → Looks L ds vs → Looks L (d :: ds) (v :: vs)
structure Sops (Γ : Gm) (es : List Expr) (m : M (List D)) : Prop where
  run : ∀ X, Γ.Ok X → ∀ env ds env', m env = some (ds, env') → ∀ σ H T, RS Γ.cfg.K H env σ T → ∀ Q : List V → Hp → Prop,
    (∀ vs H' L, St Γ.cfg.K H' L → Looks L ds vs → (∀ H'' T'', St Γ.cfg.K H'' (T'' ++ L) → RS Γ.cfg.K H'' env' σ (T'' ++ T)) → Q vs H') → WL X es σ H Q
structure Sods (Γ : Gm) (es : List Expr) (ms : List (M Od)) : Prop where
  run : ∀ X, Γ.Ok X → ∀ env ods env', mods ms env = some (ods, env') → ∀ σ H T, RS Γ.cfg.K H env σ T → ∀ Q : List V → Hp → Prop,
    (∀ vs H', RS Γ.cfg.K H' env' σ ((List.zipWith Od.its ods vs).flatten ++ T) → ods.length = vs.length → (∀ p ∈ ods.zip vs, p.1.at σ p.2) → Q vs H') → WL X es σ H Q
section
variable {Γ : Gm} {e : Expr} {es : List Expr}
theorem sod_val {m : M O} (h : Sd Γ e m) : Sod Γ e (mval m) := ⟨fun X ok env a env' hm σ H T hr Q q => by
  unfold mval at hm
  cases q' : m env with
  | none => rw [q'] at hm; cases hm
  | some p =>
    obtain ⟨o, s'⟩ := p
    rw [q'] at hm
    have e1 := Option.some.inj hm
    injection e1 with e1 e2
    subst e1 e2
    exact h.run X ok env o s' q' σ H T hr Q fun v H' r => q v H' r.freeze trivial⟩
theorem sods_nil : Sods Γ [] [] := ⟨fun X ok env ods env' hm σ H T hr Q q => by
  have e1 := Option.some.inj (show some (([] : List Od), env) = some (ods, env') from hm)
  injection e1 with e1 e2
  subst e1 e2
  exact q [] H hr rfl fun p hp => by cases hp⟩
theorem sods_cons {m : M Od} {ms : List (M Od)} (h : Sod Γ e m) (hs : Sods Γ es ms) : Sods Γ (e :: es) (m :: ms) := ⟨fun X ok env ods env' hm σ H T hr Q q => by
  obtain ⟨a, s1, h1, h2⟩ := mbind_some (show mbind m (fun a => mbind (mods ms) fun l => mpure (a :: l)) env = _ from hm)
  obtain ⟨l, s2, h3, h4⟩ := mbind_some h2
  have e1 := Option.some.inj (show some (a :: l, s2) = some (ods, env') from h4)
  injection e1 with e1 e2
  subst e1 e2
  refine h.run X ok env a s1 h1 σ H T hr _ fun v H1 r1 at1 => ?_
  refine hs.run X ok s1 l s2 h3 σ H1 (a.its v ++ T) r1 _ fun vs H2 r2 l2 at2 => ?_
  refine q (v :: vs) H2 ?_ (by simp [l2]) fun p hp => ?_
  · refine RS.perm ?_ r2
    show ((List.zipWith Od.its l vs).flatten ++ (a.its v ++ T)).Perm (((a.its v) :: List.zipWith Od.its l vs).flatten ++ T)
    rw [List.flatten_cons, ← List.append_assoc, List.append_assoc (a.its v)]
    rw [← List.append_assoc]
    exact List.perm_append_comm.append_right T
  · rcases List.mem_cons.mp hp with rfl | hp
    · exact at1
    · exact at2 p hp⟩
theorem looks_of {K : PySem.W.Frag} {H : Hp} {env : Env} {σ : L2.St} {L T : List It} (hE : EnvR env σ L) : ∀ {ods : List Od} {vs : List V} {ds : List D}, odsGet env ods = some ds → ods.length = vs.length → (∀ p ∈ ods.zip vs, p.1.at σ p.2) →
    (∀ p ∈ ods.zip vs, ∀ x ∈ p.1.its p.2, x ∈ T) → Looks (T ++ L) ds vs
  | [], [], ds, h, _, _, _ => by
    have e : [] = ds := Option.some.inj h
    subst e
    exact .nil
  | a :: ods, v :: vs, ds, h, hl, ha, ht => by
    rw [odsGet] at h
    cases q1 : a.get env with
    | none => rw [q1] at h; cases h
    | some d =>
      cases q2 : odsGet env ods with
      | none => rw [q1, q2] at h; cases h
      | some l =>
        rw [q1, q2] at h
        have e := Option.some.inj h
        subst e
        refine .cons ?_ (looks_of (K := K) (H := H) hE q2 (by simpa using hl) (fun p hp => ha p (List.mem_cons_of_mem _ hp)) fun p hp => ht p (List.mem_cons_of_mem _ hp))
        cases a with
        | val x =>
          have e := Option.some.inj (show some x = some d from q1)
          subst e
          exact ⟨.d x, List.mem_append_left _ (ht (.val x, v) List.mem_cons_self _ (List.mem_singleton.mpr rfl)), rfl⟩
        | plc i =>
          have hs : σ[i]? = some (some v) := ha (.plc i, v) List.mem_cons_self
          have q1' : (match env[i]? with | some (some o) => o.flat | _ => none) = some d := q1
          cases q3 : env[i]? with
          | none => rw [q3] at q1'; cases q1'
          | some y =>
            cases y with
            | none => rw [q3] at q1'; cases q1'
            | some o =>
              rw [q3] at q1'
              obtain ⟨v', L', g1, g2, g3⟩ := hE.out q3
              rw [hs] at g1
              have e := Option.some.inj (Option.some.inj g1)
              subst e
              exact ⟨o, List.mem_append_right _ (g3.mem_iff.mpr List.mem_cons_self), q1'⟩
  | [], _ :: _, _, _, hl, _, _ => by cases hl
  | _ :: _, [], _, _, hl, _, _ => by cases hl
theorem mem_its : ∀ {ods : List Od} {vs : List V} {p : Od × V} {x : It}, p ∈ ods.zip vs → x ∈ p.1.its p.2 → x ∈ (List.zipWith Od.its ods vs).flatten
  | a :: ods, v :: vs, p, x, hp, hx => by
    show x ∈ ((a.its v) :: List.zipWith Od.its ods vs).flatten
    rw [List.flatten_cons]
    rcases List.mem_cons.mp hp with rfl | hp
    · exact List.mem_append_left _ hx
    · exact List.mem_append_right _ (mem_its hp hx)
theorem Sods.ops {ms : List (M Od)} (h : Sods Γ es ms) : Sops Γ es (mops ms) := ⟨fun X ok env ds env' hm σ H T hr Q q => by
  unfold mops at hm
  cases q1 : mods ms env with
  | none => rw [q1] at hm; cases hm
  | some p =>
    obtain ⟨ods, s1⟩ := p
    rw [q1] at hm
    cases q2 : odsGet s1 ods with
    | none => simp only [q2] at hm; cases hm
    | some l =>
      simp only [q2] at hm
      have e1 := Option.some.inj hm
      injection e1 with e1 e2
      subst e1 e2
      refine h.run X ok env ods s1 q1 σ H T hr _ fun vs H' r hl at1 => ?_
      obtain ⟨L, hE, hS⟩ := r
      refine q vs H' _ hS ?_ fun H'' T'' hS'' => ?_
      · exact looks_of (K := Γ.cfg.K) (H := H') hE q2 hl at1 fun p hp x hx => List.mem_append_left _ (mem_its hp hx)
      · refine ⟨L, hE, hS''.sub ?_⟩
        rw [List.append_assoc, List.append_assoc]
        exact List.Sublist.append_left (List.sublist_append_right _ _) T''⟩
end
end BM

set_option Elab.async false
set_option linter.all false
set_option maxRecDepth 100000
set_option maxHeartbeats 4000000
/-! BM, part G: what a def promises where no repr is under way around it (A.guards = some []); its calls; the law's end. -/
namespace BM
open PySem PySem.Spec PyProof.Rows L2

structure FnG (cfg : Cfg) (k : Nat) (f : Addr) (fd : FuncData) (ps : List Str) (sp : Sp) : Prop where
  arity : ∀ zs H Q E, sp zs H Q E → zs.length = ps.length
  go : ∀ (A : Around) (out : List PySem.Env) (s : Shared) (H : Hp) (args : Args) (us : List Value) (zs : List V) (Q : VK) (E : XK), Room k A → A.guards = some [] → Env0 cfg.P cfg.w cfg.K cfg.mg cfg.base A out s H →
    BindsTo s fd args (ps.zip us) → Vals zs us → sp zs H Q E → codeAny (model cfg.P cfg.w) A (.call (.ref f) args) (CR CX0 out cfg.P cfg.w H s Q E) s
section
variable {cfg : Cfg} {k j : Nat} {f : Addr} {fd : FuncData} {ps : List Str} {sp sp' : Sp}
theorem FnG.weak (F : FnG cfg k f fd ps sp) (h : ∀ zs H Q E, sp' zs H Q E → sp zs H Q E) : FnG cfg k f fd ps sp' :=
  ⟨fun zs H Q E q => F.arity zs H Q E (h zs H Q E q), fun A out s H args us zs Q E r g e b v q => F.go A out s H args us zs Q E r g e b v (h zs H Q E q)⟩
/-- the end of a call, in the caller's state -/
theorem end_call {X : Cx} {pins : List (Addr × Obj)} {σ : L2.St} {H : Hp} {s s' : Shared} {Q : VK} {r : Result} (I : Inv X pins σ H s) (h : CR CX0 X.stack X.prog X.w H s Q E0 r s') :
    (match r with | .ok (.ret u) => EP X pins σ Q u s' | .ok _ => False | .error e => X.xe e s') := by
  match r, h with
  | .ok (.ret u), h => exact I.after h
  | .ok .next, h => exact h
  | .ok .brk, h => exact h
  | .ok .cont, h => exact h
  | .error e, h => exact h.elim
/-- a def by its body -/
theorem fnG_of {qual : Str} {st : Stmt} {x : Str} {N : List Str} (F : Fun cfg.K x qual st f fd) (S : FnScope N ps (defScope st)) (hl : ∀ zs H Q E, sp zs H Q E → zs.length = ps.length)
    (hb : ∀ (cdv : Value) (A : Around) (out : List PySem.Env) (s : Shared) (H : Hp) (zs : List V) (Q : VK) (E : XK), Room k (A.deeper (envOfC qual (defScope st) s.heap.objs.size f cdv)) → A.guards = some [] → sp zs H Q E →
      ∃ t, PSs (cxOf CX0 cfg.P cfg.w cfg.K cfg.mg cfg.base N qual (defScope st) f cdv A out s H E).nox (defBody st) t ∧ t { nx := fun _ H' => Q .non H', rt := Q } (L2.start N zs) H) : FnG cfg (k + 1) f fd ps sp := by
  obtain ⟨oc, od, kV, doc, pm, an, cdv, ct, osl, e1, lk, hcd⟩ := F.ex
  subst e1
  constructor
  · exact hl
  intro A out s H args us zs Q E hr hg e0 bnd rv q
  have there : cfg.K.In s.heap := e0.mod.kin.keeps fun b o z => (e0.bs b o z).1
  have lim : s.heap.NoLimit := e0.mod.nolimit.keeps fun b o z => (e0.bs b o z).1
  have kinds : ∀ y ∈ ps.zip us, (defScope st).names.lookup y.1 = some .local ∨ ((defScope st).names.lookup y.1 = some .cell ∧ ((cellsFrom (s.heap.objs.size + 1) (defScope st).names []).lookup y.1).isSome = true) := by
    rintro ⟨n, v⟩ hy
    have hm := (List.of_mem_zip hy).1
    cases S.par n hm with
    | inl z => exact .inl z
    | inr z => exact .inr ⟨z, PySem.W.cellsFrom_some _ _ _ (.inl z)⟩
  refine codeAny_call_function hr.depth (there _ _ lk) rfl S.co S.gen rfl (PySem.W.codeRec_of there hcd) (bnd _ _ _ _ (wpAny_newFunctionEnv_cells S.kind kinds ?_))
  intro env hE s1 xs
  subst hE
  obtain ⟨t, ht, tq⟩ := hb cdv A out s H zs Q E (hr.deeper _) hg q
  have I := inv_start (CX := CX0) (E := E) S hr.hd e0 (hl _ _ _ _ q) rv xs
  refine ⟨lim.keeps xs.toInCall.keep, codeAny_func (wpAny_mono (ht.nox.run [] s1 _ H _ I tq) (fun fl s2 z => ?_) fun e s2 z => z)⟩
  match fl, z with
  | .ret u, ⟨v, σ', H', J, rv', q'⟩ => exact ⟨v, H', J.os, J.bare, J.base, J.hok, rv', q'⟩
  | .next, ⟨σ', H', J, q'⟩ => exact ⟨V.non, H', J.os, J.bare, J.base, J.hok, rfl, q'⟩
  | .brk, ⟨_, _, _, q'⟩ => exact q'.elim
  | .cont, ⟨_, _, _, q'⟩ => exact q'.elim
end
section
variable {X : Cx} {cfg : Cfg} {k n : Nat} {f : Addr} {fd : FuncData} {ps : List Str} {sp : Sp} {x : Str} {p pos : Pos} {e : Expr} {es : List Expr} {ta tk : TA}
/-- the context is one of cfg, nothing is being shown -/
structure At (X : Cx) (cfg : Cfg) : Prop where
  hP : X.prog = cfg.P
  hw : X.w = cfg.w
  hK : X.K = cfg.K
  hmg : X.mg = cfg.mg
  hbase : X.base = cfg.base
  gd : X.A.guards = some []
theorem runG (a : At X cfg) {pins : List (Addr × Obj)} {σ : L2.St} {H : Hp} {s : Shared} {Q : VK} {args : Args} {us : List Value} {zs : List V} (F : FnG cfg k f fd ps sp) (hr : Room k X.A) (I : Inv X pins σ H s) (hb : BindsTo s fd args (ps.zip us)) (r : Vals zs us) (h : sp zs H Q E0) :
    wpAny (model X.prog X.w) X.A (call (.ref f) args.pos args.kw) (EP X pins σ Q) X.xe s := by
  have e0 : Env0 cfg.P cfg.w cfg.K cfg.mg cfg.base X.A X.stack s H := by
    have z := I.env0
    rw [a.hP, a.hw, a.hK, a.hmg, a.hbase] at z
    exact z
  have w := F.go X.A X.stack s H args us zs Q E0 hr a.gd e0 hb r h
  rw [← a.hP, ← a.hw] at w
  refine wpAny_call (codeAny_mono w fun r' s' z => ?_)
  have y := end_call I z
  cases r' with
  | error e => exact y
  | ok fl =>
    cases fl with
    | ret u => exact y
    | next => exact y.elim
    | brk => exact y.elim
    | cont => exact y.elim
theorem peG_call (a : At X cfg) (F : FnG cfg k f fd ps sp) (hr : Room k X.A) (hg : Gl X x) (hm : cfg.mg x = some (.ref f)) (hk : PySem.W.keepIn cfg.K (.ref f) = true) (hb : Binds cfg.K fd ps []) (hdb : (x == ("__debug__" : Str)) = false)
    (ha : PA X (e :: es) ta) (he : starEach (e :: es) X.env = (false, eval e X.env) :: starEach es X.env) (hpl : (backTo pos (starEach es X.env)).any (·.1) = false) : PE X (.Call (.Name x p) (e :: es) [] pos) (tCall sp [] E0 ta) := by
  constructor
  intro pins s σ H Q I h
  refine wpAny_Call_Name_kw (ld_glob I hg (by rw [a.hmg]; exact hm) ?_ hdb)
  refine PySem.W.callWith_K (h₀ := X.base) I.ok.mod.kin (by rw [a.hK]; exact hk) (thn (ha.run pos pins s σ H _ I h) fun us s1 ⟨vs, H1, I1, r, q⟩ => ⟨I1.kIn, ?_⟩) he hpl
  have q : sp (vs ++ []) H1 Q E0 := q
  rw [List.append_nil] at q
  have hl : us.length = ps.length := by rw [← r.length]; exact F.arity _ _ _ _ q
  have z := hb s1 us (by have := I1.kIn; rw [a.hK] at this; exact this) (by rw [List.append_nil]; exact hl)
  rw [List.append_nil] at z
  exact runG a (args := ⟨us, []⟩) F hr I1 z r q
theorem peG_call0 (a : At X cfg) (F : FnG cfg k f fd ps sp) (hr : Room k X.A) (hg : Gl X x) (hm : cfg.mg x = some (.ref f)) (hk : PySem.W.keepIn cfg.K (.ref f) = true) (hb : Binds cfg.K fd ps []) (hdb : (x == ("__debug__" : Str)) = false) :
    PE X (.Call (.Name x p) [] [] pos) (tCall sp [] E0 tNil) := by
  constructor
  intro pins s σ H Q I h
  refine wpAny_Call_Name_kw (ld_glob I hg (by rw [a.hmg]; exact hm) ?_ hdb)
  have h : sp [] H Q E0 := h
  have hl : ([] : List Value).length = ps.length := F.arity _ _ _ _ h
  have z := hb s [] (by have := I.kIn; rw [a.hK] at this; exact this) hl
  exact PySem.W.callWith_K0 I.kIn (by rw [a.hK]; exact hk) (runG a (args := ⟨[], []⟩) F hr I z .nil h)
theorem peG_callN {ks : List Str} {kws : List Keyword} {g : List Value → List Value → List Value} {gV : List V → List V → List V} (a : At X cfg) (F : FnG cfg k f fd ps sp) (hr : Room k X.A) (hg : Gl X x) (hm : cfg.mg x = some (.ref f)) (hk : PySem.W.keepIn cfg.K (.ref f) = true) (hb : KBn cfg.K fd ps n ks g gV)
    (ha : PA X (e :: es) ta) (hkw : PK X kws tk) (hall : (backToKw pos (keywordEach kws X.env)).all (·.1.isSome) = true) (hks : (backToKw pos (keywordEach kws X.env)).filterMap (·.1) = ks)
    (hdb : (x == ("__debug__" : Str)) = false) (he : starEach (e :: es) X.env = (false, eval e X.env) :: starEach es X.env)
    (hpl : ((backTo pos (starEach (e :: es) X.env)).any (·.1) || (backToKw pos (keywordEach kws X.env)).any (·.1.isNone)) = false) :
    PE X (.Call (.Name x p) (e :: es) kws pos) (tCallN n ks.length sp gV E0 ta tk) := by
  constructor
  intro pins s σ H Q I h
  refine wpAny_Call_Name_kw (ld_glob I hg (by rw [a.hmg]; exact hm) ?_ hdb)
  refine PySem.W.callWith_KW (h₀ := X.base) I.ok.mod.kin (by rw [a.hK]; exact hk) hall (thn (ha.run pos pins s σ H _ I h) fun us s1 ⟨vs, H1, I1, r, q⟩ => ?_) hpl he
  refine thn (hkw.run pos pins s1 σ H1 _ I1 q) fun ws s2 ⟨zs, H2, I2, rz, l1, l2, q2⟩ => ⟨I2.kIn, ?_⟩
  rw [hks]
  have z := hb.to s2 us ws (by have := I2.kIn; rw [a.hK] at this; exact this) (r.length.symm.trans l1) (rz.length.symm.trans l2)
  exact runG a (args := ⟨us, ks.zip ws⟩) F hr I2 z (hb.rel r rz) q2
theorem peG_callN0 {ks : List Str} {kws : List Keyword} {g : List Value → List Value → List Value} {gV : List V → List V → List V} (a : At X cfg) (F : FnG cfg k f fd ps sp) (hr : Room k X.A) (hg : Gl X x) (hm : cfg.mg x = some (.ref f)) (hk : PySem.W.keepIn cfg.K (.ref f) = true) (hb : KBn cfg.K fd ps 0 ks g gV)
    (hkw : PK X kws tk) (hall : (backToKw pos (keywordEach kws X.env)).all (·.1.isSome) = true) (hks : (backToKw pos (keywordEach kws X.env)).filterMap (·.1) = ks) (hdb : (x == ("__debug__" : Str)) = false)
    (hpl : ((backTo pos (starEach [] X.env)).any (·.1) || (backToKw pos (keywordEach kws X.env)).any (·.1.isNone)) = false) :
    PE X (.Call (.Name x p) [] kws pos) (tCallN 0 ks.length sp gV E0 tNil tk) := by
  constructor
  intro pins s σ H Q I h
  refine wpAny_Call_Name_kw (ld_glob I hg (by rw [a.hmg]; exact hm) ?_ hdb)
  refine PySem.W.callWith_KW0 (h₀ := X.base) I.ok.mod.kin (by rw [a.hK]; exact hk) hall (thn (hkw.run pos pins s σ H _ I h) fun ws s2 ⟨zs, H2, I2, rz, l1, l2, q2⟩ => ⟨I2.kIn, ?_⟩) hpl
  rw [hks]
  have z := hb.to s2 [] ws (by have := I2.kIn; rw [a.hK] at this; exact this) l1 (rz.length.symm.trans l2)
  exact runG a (args := ⟨[], ks.zip ws⟩) F hr I2 z (hb.rel .nil rz) q2
end

/-! ### the law's own call -/
section
variable {P : Program} {w : World} {K : PySem.W.Frag} {mg : Str → Option Value}
/-- the call from a heap of which H tells at most the script -/
theorem goG {mb : Str → Option Value} {k : Nat} {fa a : Addr} {fd : FuncData} {x : Str} {sp : Sp} {s : Shared} {vs : List Value} {H : Hp} (there : K.In s.heap) (nm : s.heap.Ns mainGlobals mg) (nb : s.heap.Ns builtinsNs mb) (nbb : ∀ x : Str, x ≠ "__name__" → mb x = bootBuiltins x) (lim : s.heap.NoLimit) (nog : s.gens = #[])
    (ha : s.heap.get? a = some { cls := .type "list", data := .seq vs.toArray }) (hr : Room k callerA) (F : ∀ base : Heap, K.In base → base.Ns mainGlobals mg → FnG ⟨P, w, K, mg, base⟩ k fa fd [x] sp)
    (bnd : ∀ (s : Shared) (u : Value), BindsTo s fd ⟨[u], []⟩ [(x, u)]) (q : sp [.ref a] H (fun v _ => v = .bl true) E0) (only : Only H) (hok : HOk P w H s.heap) (alone : ∀ b, b ≠ a → H b = none) (ours : K.lookup a ≠ none → H a = none) :
    codeAny (model P w) callerA (.call (.ref fa) ⟨[.ref a], []⟩) (fun r s' => r = .ok (.ret (.bool true)) ∧ OldK s.heap s'.heap ∧ s'.os = s.os ∧ AllBare s'.gens) s := by
  have free : ∀ {b : Addr} {o : Obj}, s.heap.get? b = some o → (b = a → o.cls ≠ .type "list" ∨ H a = none) → H b = none := by
    intro b o e z
    by_cases hb : b = a
    · subst hb
      rcases z rfl with z | z
      · rw [ha] at e
        cases e
        exact absurd rfl z
      · exact z
    · exact alone b hb
  have dct : ∀ {b : Addr} {o : Obj} {es : Array DictEntry} {ep : Nat}, s.heap.get? b = some o → o.data = .dict es ep → H b = none := by
    intro b o es ep e d
    by_cases hb : b = a
    · subst hb
      rw [ha] at e
      cases e
      cases (show Data.seq vs.toArray _ = Data.dict es ep from d)
    · exact alone b hb
  have ns : ∀ {b : Addr} {m : Str → Option Value}, s.heap.Ns b m → (hidT s.heap H).Ns b m := by
    rintro b m ⟨o, es, ep, e, d, r⟩
    exact ⟨o, es, ep, hidT_get e (dct e d), d, r⟩
  have hK : K.In (hidT s.heap H) := by
    intro b o z
    refine hidT_get (there b o z) ?_
    by_cases hb : b = a
    · subst hb
      exact ours (by rw [z]; exact fun y => nomatch y)
    · exact alone b hb
  have md : Mod K mg (hidT s.heap H) := by
    refine ⟨hK, ns nm, ⟨mb, ns nb, nbb⟩, ?_⟩
    obtain ⟨mc, l1, l2⟩ := lim
    exact ⟨mc, ns l1, l2⟩
  have e0 : Env0 P w K mg (hidT s.heap H) callerA [] s H := ⟨rfl, md, fun b o z => of_hidT z, Nat.le_of_eq (hidT_size _ _), trivial, fun b z => (List.not_mem_nil (show b ∈ ([] : List Addr) from z)).elim, hok, .of_eq nog⟩
  have go := (F (hidT s.heap H) hK (ns nm)).go callerA [] s H ⟨[.ref a], []⟩ [.ref a] [.ref a] _ E0 hr rfl e0 (bnd s (.ref a)) (.cons rfl .nil) q
  refine codeAny_mono go fun r s' z => ?_
  match r, z with
  | .error e, z => exact z.elim
  | .ok .next, z => exact z.elim
  | .ok .brk, z => exact z.elim
  | .ok .cont, z => exact z.elim
  | .ok (.ret u), ⟨v, H', os, bare, un, hok', rv, e⟩ =>
    have e : v = .bl true := e
    subst e
    have hu : u = Value.bool true := rv
    subst hu
    refine ⟨rfl, .of_keep fun b o z => ?_, os, bare⟩
    rcases only b with y | ⟨ob, xs, y⟩
    · exact un.keep b o z y (fun n => List.not_mem_nil (show b ∈ ([] : List Addr) from n)) (fun n => List.not_mem_nil (show b ∈ ([] : List Addr) from n))
    · have c1 := (hok b _ y).1
      have c2 := (hok' b _ (un.frzs b ob _ y)).1
      rw [c1] at z
      cases z
      exact c2
theorem lawG {mb : Str → Option Value} {k : Nat} {fa a : Addr} {fd : FuncData} {x : Str} {sp : Sp} {s : Shared} {vs : List Value} {ns : List Int} (there : K.In s.heap) (nm : s.heap.Ns mainGlobals mg) (nb : s.heap.Ns builtinsNs mb) (nbb : ∀ x : Str, x ≠ "__name__" → mb x = bootBuiltins x) (lim : s.heap.NoLimit) (nog : s.gens = #[])
    (ha : s.heap.get? a = some { cls := .type "list", data := .seq vs.toArray }) (hia : IntsAre vs ns) (hl : ns.length ≤ sizeLine) (hr : Room k callerA) (F : ∀ base : Heap, K.In base → base.Ns mainGlobals mg → FnG ⟨P, w, K, mg, base⟩ k fa fd [x] sp)
    (bnd : ∀ (s : Shared) (u : Value), BindsTo s fd ⟨[u], []⟩ [(x, u)]) (q : ∀ H : Hp, Only H → SqL K H a (ns.map V.int) → sp [.ref a] H (fun v _ => v = .bl true) E0) :
    codeAny (model P w) callerA (.call (.ref fa) ⟨[.ref a], []⟩) (fun r s' => r = .ok (.ret (.bool true)) ∧ OldK s.heap s'.heap ∧ s'.os = s.os ∧ AllBare s'.gens) s := by
  have rv := vals_ints hia
  have lv := hia.length
  match hk : K.lookup a with
  | some o =>
    have z := there a o hk
    rw [ha] at z
    cases z
    have only : Only (fun _ => none) := fun _ => .inl rfl
    have sq : SqL K (fun _ => none) a (ns.map V.int) := .inr ⟨_, vs.toArray, _, hk, rfl, rfl, rfl, by rw [List.size_toArray, lv]; exact hl, by simpa using rv⟩
    exact goG there nm nb nbb lim nog ha hr F bnd (q _ only sq) only (fun b u y => nomatch (show (none : Option HO) = some u from y)) (fun _ _ => rfl) fun _ => rfl
  | none =>
    let ob : Obj := { cls := .type "list", data := .seq vs.toArray }
    let Hs : Hp := fun b => if b = a then some (.frz ob (.lst (ns.map V.int))) else none
    have at_ : Hs a = some (.frz ob (.lst (ns.map V.int))) := if_pos rfl
    have off : ∀ b, b ≠ a → Hs b = none := fun b hb => if_neg hb
    have only : Only Hs := by
      intro b
      by_cases hb : b = a
      · subst hb; exact .inr ⟨_, _, at_⟩
      · exact .inl (off b hb)
    have hok : HOk P w Hs s.heap := by
      intro b u y
      by_cases hb : b = a
      · subst hb
        rw [at_] at y
        cases y
        exact ⟨ha, by rw [List.length_map]; exact hl, vs, _, rv, ha⟩
      · rw [off b hb] at y; cases y
    exact goG there nm nb nbb lim nog ha hr F bnd (q Hs only (.inl (.inr ⟨ob, at_⟩))) only hok off fun y => absurd hk y
end
/-- what k_head leaves, from the law's promise -/
theorem walkG {l : PySem.W.OpenLaw} {n k : Nat} {r : Program} {loose : List Str} {XP : (Str → Option Value) → Heap → Prop} {YP : World → Heap → Prop} {d : DefRec} {K : Params → PySem.W.Frag} {sp : World → Sp} {x : Str} (hn : l.most = some n) (small : n ≤ sizeLine) (nodef : d.params.defaults = []) (room : Room k callerA)
    (there : ∀ (w : World) (h : Heap), YP w h → (K w.params).In h)
    (F : ∀ (w : World) (mg : Str → Option Value) (fa : Addr) (h : Heap), (K w.params).In h → h.Ns mainGlobals mg → mg d.name = some (.ref fa) → ∃ fd : FuncData, (∀ (s : Shared) (u : Value), BindsTo s fd ⟨[u], []⟩ [(x, u)]) ∧
      ∀ base : Heap, (K w.params).In base → base.Ns mainGlobals mg → FnG ⟨l.prog, w, K w.params, mg, base⟩ k fa fd [x] (sp w))
    (q : ∀ (w : World) (H : Hp) (a : Addr) (ns : List Int), ns.length ≤ n → Only H → SqL (K w.params) H a (ns.map V.int) → sp w [.ref a] H (fun v _ => v = .bl true) E0) : PySem.W.WalkO r loose XP YP l.row.toRowW d [] (fun f vs => PySem.call f vs) := by
  refine Att.attach_call hn nodef ?_
  intro w s₀ s₁ mg mb fa o pm cd doc a vs ns G Y ho hd hcd hmg hobj hints hlen hg
  have KX := there w _ Y
  obtain ⟨fd, hb, hF⟩ := F w mg fa _ KX G.T.g hmg
  exact lawG KX G.T.g G.T.b G.T.builtins G.T.nolimit hg hobj hints (Nat.le_trans hlen small) room hF hb fun H o s => q w H a ns hlen o s
end BM

set_option Elab.async false
set_option linter.all false
set_option maxRecDepth 100000
set_option maxHeartbeats 4000000
/-! BM, part 4: the rules of expressions. -/
namespace BM
open PySem PySem.Spec PyProof.Rows L2

section
variable {K : PySem.W.Frag} {H H' : Hp} {L T : List It} {x : D} {v : V}
theorem St.leafv (h : St K H (.rep (.d x) v :: L)) : ∃ G, Same G H ∧ Rep K G x v := by
  obtain ⟨G, fp, s, ⟨f1, f2, e, h2, h3⟩, nd, hg⟩ := h
  have h2' : Own K G H (.d x) v f1 := h2
  rw [Own] at h2'
  exact ⟨G, s, h2'.2⟩
theorem St.blv {b : Bool} (h : St K H (.rep (.d (.bl b)) v :: L)) : v = .bl b := by
  obtain ⟨G, _, r⟩ := h.leafv
  rw [Rep] at r; exact r
theorem St.intv {i : Int} (h : St K H (.rep (.d (.int i)) v :: L)) : v = .int i := by
  obtain ⟨G, _, r⟩ := h.leafv
  rw [Rep] at r; exact r
theorem St.strv {i : Str} (h : St K H (.rep (.d (.str i)) v :: L)) : v = .str i := by
  obtain ⟨G, _, r⟩ := h.leafv
  rw [Rep] at r; exact r
theorem St.nonv (h : St K H (.rep (.d .non) v :: L)) : v = .non := by
  obtain ⟨G, _, r⟩ := h.leafv
  rw [Rep] at r; exact r
theorem mem_perm {α : Type} {a : α} : ∀ {l : List α}, a ∈ l → ∃ r, l.Perm (a :: r)
  | b :: l, h => by
    rcases List.mem_cons.mp h with e | h
    · subst e; exact ⟨l, .refl _⟩
    · obtain ⟨r, p⟩ := mem_perm h
      exact ⟨b :: r, (p.cons b).trans (.swap _ _ _)⟩
/-- what is looked at, by its deep form -/
theorem flat_toD {o : O} {d : D} (h : o.flat = some d) : o.toD = d := by
  cases o with
  | d x => exact Option.some.inj h
  | lst os =>
    have h' : (match O.leafs os with | some l => some (D.lst l) | none => none) = some d := h
    cases q : O.leafs os with
    | none => rw [q] at h'; cases h'
    | some l =>
      rw [q] at h'
      have e := Option.some.inj h'
      subst e
      rw [leafs_eq q, O.toD, toDs_leaf]
  | dct ks os =>
    have h' : (match O.leafs os with | some l => some (D.dct (ks.zip l)) | none => none) = some d := h
    cases q : O.leafs os with
    | none => rw [q] at h'; cases h'
    | some l =>
      rw [q] at h'
      have e := Option.some.inj h'
      subst e
      rw [leafs_eq q, O.toD, toDs_leaf]
  | obj C ns os =>
    have h' : (match O.leafs os with | some l => some (D.obj C ns l) | none => none) = some d := h
    cases q : O.leafs os with
    | none => rw [q] at h'; cases h'
    | some l =>
      rw [q] at h'
      have e := Option.some.inj h'
      subst e
      rw [leafs_eq q, O.toD, toDs_leaf]
theorem Look.rep {d : D} (h : St K H L) (k : Look L d v) : Rep K H d v := by
  obtain ⟨o, hm, hf⟩ := k
  obtain ⟨r, p⟩ := mem_perm hm
  rw [← flat_toD hf]
  exact (h.perm p).repH
theorem Look.int {i : Int} (h : St K H L) (k : Look L (.int i) v) : v = .int i := by
  have r := k.rep h
  rw [Rep] at r; exact r
theorem Look.str {i : Str} (h : St K H L) (k : Look L (.str i) v) : v = .str i := by
  have r := k.rep h
  rw [Rep] at r; exact r
theorem Look.bl {i : Bool} (h : St K H L) (k : Look L (.bl i) v) : v = .bl i := by
  have r := k.rep h
  rw [Rep] at r; exact r
theorem Look.non (h : St K H L) (k : Look L .non v) : v = .non := by
  have r := k.rep h
  rw [Rep] at r; exact r
/-- a list that is looked at: its parts are frozen -/
theorem Look.lst {ds : List D} (h : St K H L) (k : Look L (.lst ds) v) : ∃ a vs, v = .ref a ∧ SqL K H a vs ∧ ds.length = vs.length ∧ St K H (reps (leaf ds) vs ++ L) := by
  obtain ⟨o, hm, hf⟩ := k
  obtain ⟨r, p⟩ := mem_perm hm
  cases o with
  | d x =>
    have e := Option.some.inj (show some x = some (D.lst ds) from hf)
    subst e
    obtain ⟨a, vs, h1, h2, h3, h4⟩ := (h.perm p).read_lst
    exact ⟨a, vs, h1, h2, h3, h4.perm (p.symm.append_left _)⟩
  | lst os =>
    have h' : (match O.leafs os with | some l => some (D.lst l) | none => none) = some (D.lst ds) := hf
    cases q : O.leafs os with
    | none => rw [q] at h'; cases h'
    | some l =>
      rw [q] at h'
      have e := Option.some.inj h'
      injection e with e
      subst e
      have e2 := leafs_eq q
      subst e2
      obtain ⟨a, vs, h1, h2, h3, h4⟩ := (h.perm p).look_lst
      exact ⟨a, vs, h1, SqL.of h2, h3, h4.perm (p.symm.append_left _)⟩
  | dct ks os =>
    have h' : (match O.leafs os with | some l => some (D.dct (ks.zip l)) | none => none) = some (D.lst ds) := hf
    cases q : O.leafs os with
    | none => rw [q] at h'; cases h'
    | some l => rw [q] at h'; cases h'
  | obj C ns os =>
    have h' : (match O.leafs os with | some l => some (D.obj C ns l) | none => none) = some (D.lst ds) := hf
    cases q : O.leafs os with
    | none => rw [q] at h'; cases h'
    | some l => rw [q] at h'; cases h'
theorem Look.tup {ds : List D} (h : St K H L) (k : Look L (.tup ds) v) : ∃ a vs, v = .ref a ∧ SqT K H a vs ∧ ds.length = vs.length ∧ St K H (reps (leaf ds) vs ++ L) := by
  obtain ⟨o, hm, hf⟩ := k
  obtain ⟨r, p⟩ := mem_perm hm
  cases o with
  | d x =>
    have e := Option.some.inj (show some x = some (D.tup ds) from hf)
    subst e
    obtain ⟨a, vs, h1, h2, h3, h4⟩ := (h.perm p).read_tup
    exact ⟨a, vs, h1, h2, h3, h4.perm (p.symm.append_left _)⟩
  | lst os =>
    have h' : (match O.leafs os with | some l => some (D.lst l) | none => none) = some (D.tup ds) := hf
    cases q : O.leafs os with
    | none => rw [q] at h'; cases h'
    | some l => rw [q] at h'; cases h'
  | dct ks os =>
    have h' : (match O.leafs os with | some l => some (D.dct (ks.zip l)) | none => none) = some (D.tup ds) := hf
    cases q : O.leafs os with
    | none => rw [q] at h'; cases h'
    | some l => rw [q] at h'; cases h'
  | obj C ns os =>
    have h' : (match O.leafs os with | some l => some (D.obj C ns l) | none => none) = some (D.tup ds) := hf
    cases q : O.leafs os with
    | none => rw [q] at h'; cases h'
    | some l => rw [q] at h'; cases h'
/-- the i-th part as an item -/
theorem reps_at : ∀ {ds : List D} {vs : List V} {i : Nat} {d : D}, ds.length = vs.length → ds[i]? = some d → ∃ v, vs[i]? = some v ∧ .rep (.d d) v ∈ reps (leaf ds) vs
  | d :: ds, v :: vs, 0, d', _, h => by
    have e := Option.some.inj (show some d = some d' from h)
    subst e
    exact ⟨v, rfl, List.mem_cons_self⟩
  | d :: ds, v :: vs, i + 1, d', hl, h => by
    obtain ⟨w, h1, h2⟩ := reps_at (ds := ds) (vs := vs) (i := i) (d := d') (by simpa using hl) (by simpa using h)
    exact ⟨w, by simpa using h1, List.mem_cons_of_mem _ h2⟩
  | [], _, i, _, _, h => by simp at h
  | _ :: _, [], _, _, hl, _ => by cases hl
/-- one item taken to the front -/
theorem St.pick {o : O} {v : V} {R : List It} (h : St K H (R ++ L)) (hm : It.rep o v ∈ R) : St K H (.rep o v :: L) := by
  obtain ⟨r, p⟩ := mem_perm hm
  refine St.sub ?_ (h.perm (p.append_right L))
  exact .cons₂ _ (List.sublist_append_right r L)
theorem looks_len {ds : List D} {vs : List V} (h : Looks L ds vs) : ds.length = vs.length := by
  induction h with
  | nil => rfl
  | cons _ _ ih => simp [ih]
theorem Look.wide {d : D} {L' : List It} (k : Look L d v) (h : ∀ x ∈ L, x ∈ L') : Look L' d v := by
  obtain ⟨o, hm, hf⟩ := k
  exact ⟨o, h _ hm, hf⟩
theorem Looks.wide {ds : List D} {vs : List V} {L' : List It} (k : Looks L ds vs) (h : ∀ x ∈ L, x ∈ L') : Looks L' ds vs := by
  induction k with
  | nil => exact .nil
  | cons a _ ih => exact .cons (a.wide h) ih
end

/-! ### what an operation must keep -/
def OkB (Γ : Gm) (f : Value → Value → Sem Value) (F : List D → Option O) : Prop := ∀ X, Γ.Ok X → ∀ H L x y d e o, St Γ.cfg.K H L → Look L d x → Look L e y → F [d, e] = some o → ∀ Q : VK, (∀ v H', St Γ.cfg.K H' (.rep o v :: L) → Q v H') → WO X f x y H Q
def OkU (Γ : Gm) (f : Value → Sem Value) (F : List D → Option O) : Prop := ∀ X, Γ.Ok X → ∀ H L x d o, St Γ.cfg.K H L → Look L d x → F [d] = some o → ∀ Q : VK, (∀ v H', St Γ.cfg.K H' (.rep o v :: L) → Q v H') → WU X f x H Q
def OkC (Γ : Gm) (f : Value) (F : List D → Option O) : Prop := ∀ X, Γ.Ok X → ∀ H L vs ds o, St Γ.cfg.K H L → Looks L ds vs → F ds = some o → ∀ Q : VK, (∀ v H', St Γ.cfg.K H' (.rep o v :: L) → Q v H') → WC X f vs H Q
def OkX (Γ : Gm) (F : List D → Option O) : Prop := ∀ X, Γ.Ok X → ∀ H L x y d e o, St Γ.cfg.K H L → Look L d x → Look L e y → F [d, e] = some o → ∀ Q : VK, (∀ v H', St Γ.cfg.K H' (.rep o v :: L) → Q v H') → WI X x y H Q

section
variable {Γ : Gm} {a b c e : Expr} {es rest : List Expr} {ms : List (M Od)} {F : List D → Option O} {pos p : Pos} {x : Str}
theorem mOp_some {env : Env} {r : O × Env} (h : mOp F ms env = some r) : ∃ ds, mops ms env = some (ds, r.2) ∧ F ds = some r.1 := by
  unfold mOp at h
  cases q : mops ms env with
  | none => rw [q] at h; cases h
  | some p =>
    obtain ⟨ds, s⟩ := p
    rw [q] at h
    cases q2 : F ds with
    | none => simp only [q2] at h; cases h
    | some o =>
      simp only [q2] at h
      have e := Option.some.inj h
      subst e
      exact ⟨ds, rfl, q2⟩
theorem mTst_some {F : List D → Option Bool} {env : Env} {r : Bool × Env} (h : mTst F ms env = some r) : ∃ ds, mops ms env = some (ds, r.2) ∧ F ds = some r.1 := by
  unfold mTst at h
  cases q : mops ms env with
  | none => rw [q] at h; cases h
  | some p =>
    obtain ⟨ds, s⟩ := p
    rw [q] at h
    cases q2 : F ds with
    | none => simp only [q2] at h; cases h
    | some o =>
      simp only [q2] at h
      have e := Option.some.inj h
      subst e
      exact ⟨ds, rfl, q2⟩

/-! ### names and constants -/
theorem sd_var (i : Nat) (hN : Γ.N[i]? = some x := by rfl) (hv : Γ.vis x = true := by kernel_rfl) (hd : (x == ("__debug__" : Str)) = false := by kernel_rfl) (hcd : (x == ("__classdict__" : Str)) = false := by kernel_rfl) : Sd Γ (.Name x p) (mVar i) := ⟨fun X ok env o env' hm σ H T hr Q q => by
  unfold mVar at hm
  cases q1 : env[i]? with
  | none => rw [q1] at hm; cases hm
  | some y =>
    cases y with
    | none => rw [q1] at hm; cases hm
    | some o1 =>
      cases o1 with
      | d z =>
        rw [q1] at hm
        have e1 := Option.some.inj hm
        injection e1 with e1 e2
        subst e1 e2
        obtain ⟨v, hs, r⟩ := hr.take q1
        refine ⟨tVar i, pe_var (by rw [ok.hN]; exact hN) (ok.vis hv) hd hcd, v, hs, q v H ?_⟩
        have r2 : RS Γ.cfg.K H (env.set i none) σ (.rep (.d z) v :: .rep (.d z) v :: T) := r.lift fun L h => h.dup
        have r3 := r2.putSame hs
        rw [List.set_set] at r3
        rw [show env.set i (some (.d z)) = env by
          obtain ⟨h1, h2⟩ := List.getElem?_eq_some_iff.mp q1
          rw [← h2]; exact List.set_getElem_self h1] at r3
        exact r3
      | lst _ => rw [q1] at hm; cases hm
      | dct _ _ => rw [q1] at hm; cases hm
      | obj _ _ _ => rw [q1] at hm; cases hm⟩
theorem sd_fz (i : Nat) (hN : Γ.N[i]? = some x := by rfl) (hv : Γ.vis x = true := by kernel_rfl) (hd : (x == ("__debug__" : Str)) = false := by kernel_rfl) (hcd : (x == ("__classdict__" : Str)) = false := by kernel_rfl) : Sd Γ (.Name x p) (mFz i) := ⟨fun X ok env o env' hm σ H T hr Q q => by
  unfold mFz at hm
  cases q1 : env[i]? with
  | none => rw [q1] at hm; cases hm
  | some y =>
    cases y with
    | none => rw [q1] at hm; cases hm
    | some o1 =>
      rw [q1] at hm
      have e1 := Option.some.inj hm
      injection e1 with e1 e2
      subst e1 e2
      obtain ⟨v, hs, r⟩ := hr.take q1
      refine ⟨tVar i, pe_var (by rw [ok.hN]; exact hN) (ok.vis hv) hd hcd, v, hs, q v H ?_⟩
      have r2 : RS Γ.cfg.K H (env.set i none) σ (.rep (.d o1.toD) v :: .rep (.d o1.toD) v :: T) := r.lift fun L h => h.freeze.dup
      have r3 := r2.putSame hs
      rw [List.set_set] at r3
      exact r3⟩
theorem sd_mv (i : Nat) (hN : Γ.N[i]? = some x := by rfl) (hv : Γ.vis x = true := by kernel_rfl) (hd : (x == ("__debug__" : Str)) = false := by kernel_rfl) (hcd : (x == ("__classdict__" : Str)) = false := by kernel_rfl) : Sd Γ (.Name x p) (mMv i) := ⟨fun X ok env o env' hm σ H T hr Q q => by
  unfold mMv at hm
  cases q1 : env[i]? with
  | none => rw [q1] at hm; cases hm
  | some y =>
    cases y with
    | none => rw [q1] at hm; cases hm
    | some o1 =>
      rw [q1] at hm
      have e1 := Option.some.inj hm
      injection e1 with e1 e2
      subst e1 e2
      obtain ⟨v, hs, r⟩ := hr.take q1
      exact ⟨tVar i, pe_var (by rw [ok.hN]; exact hN) (ok.vis hv) hd hcd, v, hs, q v H r⟩⟩
theorem sod_plc (i : Nat) (hN : Γ.N[i]? = some x := by rfl) (hv : Γ.vis x = true := by kernel_rfl) (hd : (x == ("__debug__" : Str)) = false := by kernel_rfl) (hcd : (x == ("__classdict__" : Str)) = false := by kernel_rfl) : Sod Γ (.Name x p) (fun s => match s[i]? with
  | some (some o) => some (.plc i, s)
  | _ => none) := ⟨fun X ok env a env' hm σ H T hr Q q => by
  cases q1 : env[i]? with
  | none => simp only [q1] at hm; cases hm
  | some y =>
    cases y with
    | none => simp only [q1] at hm; cases hm
    | some o1 =>
      simp only [q1] at hm
      have e1 := Option.some.inj hm
      injection e1 with e1 e2
      subst e1 e2
      obtain ⟨v, hs, r⟩ := hr.take q1
      exact ⟨tVar i, pe_var (by rw [ok.hN]; exact hN) (ok.vis hv) hd hcd, v, hs, q v H hr hs⟩⟩
theorem sd_c {d : D} {v : V} {k : Const} {j : Nat} (hp : ∀ X, PE X (.Constant k j p) (tC v)) (f : flatD d v) : Sd Γ (.Constant k j p) (mC d) := ⟨fun X ok env o env' hm σ H T hr Q q => by
  have e1 := Option.some.inj (show some (O.d d, env) = some (o, env') from hm)
  injection e1 with e1 e2
  subst e1 e2
  exact ⟨tC v, hp X, q v H (hr.lift fun L h => h.flat f)⟩⟩
theorem sd_int {i : Int} {j : Nat} : Sd Γ (.Constant (.int i) j p) (mC (.int i)) := sd_c (v := .int i) (fun _ => pe_int) rfl
theorem sd_bl {i : Bool} {j : Nat} : Sd Γ (.Constant (.bool i) j p) (mC (.bl i)) := sd_c (v := .bl i) (fun _ => pe_bl) rfl
theorem sd_non {j : Nat} : Sd Γ (.Constant .none j p) (mC .non) := sd_c (v := .non) (fun _ => pe_non) rfl
theorem sd_str {i : Str} {j : Nat} : Sd Γ (.Constant (.str i) j p) (mC (.str i)) := sd_c (v := .str i) (fun _ => pe_str) rfl
/-- a module's flat constant -/
theorem sd_glob {d : D} {v : V} {u : Value} (hg : Γ.glo x = true) (hm : Γ.cfg.mg x = some u) (r : RelV v u) (f : flatD d v) (hd : (x == ("__debug__" : Str)) = false := by kernel_rfl) : Sd Γ (.Name x p) (mC d) := ⟨fun X ok env o env' h σ H T hr Q q => by
  have e1 := Option.some.inj (show some (O.d d, env) = some (o, env') from h)
  injection e1 with e1 e2
  subst e1 e2
  exact ⟨tC v, pe_glob (ok.glo hg) (by rw [ok.hmg]; exact hm) r hd, q v H (hr.lift fun L h => h.flat f)⟩⟩

/-! ### operations -/
theorem sd_bin {op : Operator} (h : Sods Γ [a, b] ms) (ho : OkB Γ (binaryOp op) F) : Sd Γ (.BinOp a op b pos) (mOp F ms) := ⟨fun X ok env o env' hm σ H T hr Q q => by
  obtain ⟨ds, h1, h2⟩ := mOp_some hm
  refine ⟨tOp (WO X (binaryOp op)) (WE X a) (WE X b), pe_op (op_best X _) (pe_best X a) (pe_best X b), ?_⟩
  refine h.ops.run X ok env ds env' h1 σ H T hr (fun vs H' => match vs with | [x, y] => WO X (binaryOp op) x y H' Q | _ => True) fun vs H' L hS hL back => ?_
  cases hL with
  | nil => trivial
  | cons l1 hL =>
    cases hL with
    | nil => trivial
    | cons l2 hL =>
      cases hL with
      | cons _ _ => trivial
      | nil => exact ho X ok H' L _ _ _ _ _ hS l1 l2 h2 Q fun v H'' h'' => q v H'' (back H'' [_] h'')⟩
theorem sd_cmp {op : CmpOp} (h : Sods Γ [a, b] ms) (ho : OkB Γ (compareOp op) F) (hm : behindInMarks op b = false := by first | exact nomark _ | rfl) : Sd Γ (.Compare a [op] [b] pos) (mOp F ms) := ⟨fun X ok env o env' hm' σ H T hr Q q => by
  obtain ⟨ds, h1, h2⟩ := mOp_some hm'
  refine ⟨tOp (WO X (compareOp op)) (WE X a) (WE X b), pe_cmpR (op_best X _) (pe_best X a) (pe_best X b) hm, ?_⟩
  refine h.ops.run X ok env ds env' h1 σ H T hr (fun vs H' => match vs with | [x, y] => WO X (compareOp op) x y H' Q | _ => True) fun vs H' L hS hL back => ?_
  cases hL with
  | nil => trivial
  | cons l1 hL =>
    cases hL with
    | nil => trivial
    | cons l2 hL =>
      cases hL with
      | cons _ _ => trivial
      | nil => exact ho X ok H' L _ _ _ _ _ hS l1 l2 h2 Q fun v H'' h'' => q v H'' (back H'' [_] h'')⟩
theorem bO_some {F : List D → Option Bool} {ds : List D} {b : Bool} (h : F ds = some b) : bO F ds = some (.d (.bl b)) := by
  unfold bO; rw [h]
/-- a comparison as a test -/
theorem sdT_cmp {op : CmpOp} {F : List D → Option Bool} (h : Sods Γ [a, b] ms) (ho : OkB Γ (compareOp op) (bO F)) (hm : behindInMarks op b = false := by first | exact nomark _ | rfl) : SdT Γ (.Compare a [op] [b] pos) (mTst F ms) := ⟨fun X ok env o env' hm' σ H T hr Q q => by
  obtain ⟨ds, h1, h2⟩ := mTst_some hm'
  refine ⟨tTest (tOp (WO X (compareOp op)) (WE X a) (WE X b)), pt_cmpR (op_best X _) (pe_best X a) (pe_best X b) hm, ?_⟩
  refine h.ops.run X ok env ds env' h1 σ H T hr (fun vs H' => match vs with | [x, y] => WO X (compareOp op) x y H' (fun x H' => ∃ k, x = .bl k ∧ Q k H') | _ => True) fun vs H' L hS hL back => ?_
  cases hL with
  | nil => trivial
  | cons l1 hL =>
    cases hL with
    | nil => trivial
    | cons l2 hL =>
      cases hL with
      | cons _ _ => trivial
      | nil => exact ho X ok H' L _ _ _ _ _ hS l1 l2 (bO_some h2) _ fun v H'' h'' => ⟨o, h''.blv, q H'' (RS.drop (back H'' [_] h''))⟩⟩
theorem sd_un {op : UnaryOp} (h : Sods Γ [a] ms) (ho : OkU Γ (unaryOp op) F) : Sd Γ (.UnaryOp op a pos) (mOp F ms) := ⟨fun X ok env o env' hm σ H T hr Q q => by
  obtain ⟨ds, h1, h2⟩ := mOp_some hm
  refine ⟨tUn (WU X (unaryOp op)) (WE X a), pe_un (un_best X _) (pe_best X a), ?_⟩
  refine h.ops.run X ok env ds env' h1 σ H T hr (fun vs H' => match vs with | [x] => WU X (unaryOp op) x H' Q | _ => True) fun vs H' L hS hL back => ?_
  cases hL with
  | nil => trivial
  | cons l1 hL =>
    cases hL with
    | cons _ _ => trivial
    | nil => exact ho X ok H' L _ _ _ hS l1 h2 Q fun v H'' h'' => q v H'' (back H'' [_] h'')⟩
theorem sd_ix (h : Sods Γ [a, b] ms) (ho : OkX Γ F) (hs : PlainIx b := by exact fun _ _ => rfl) : Sd Γ (.Subscript a b pos) (mOp F ms) := ⟨fun X ok env o env' hm σ H T hr Q q => by
  obtain ⟨ds, h1, h2⟩ := mOp_some hm
  refine ⟨tOp (WI X) (WE X a) (WE X b), pe_ix (ix_best X) (pe_best X a) (pe_best X b) hs, ?_⟩
  refine h.ops.run X ok env ds env' h1 σ H T hr (fun vs H' => match vs with | [x, y] => WI X x y H' Q | _ => True) fun vs H' L hS hL back => ?_
  cases hL with
  | nil => trivial
  | cons l1 hL =>
    cases hL with
    | nil => trivial
    | cons l2 hL =>
      cases hL with
      | cons _ _ => trivial
      | nil => exact ho X ok H' L _ _ _ _ _ hS l1 l2 h2 Q fun v H'' h'' => q v H'' (back H'' [_] h'')⟩
/-! ### argument lists without stars -/
/-- no star -/
inductive NoStars : List Expr → Prop
  | nil : NoStars []
  | cons (e0 : Expr) (es0 : List Expr) : (∀ env, starEach (e0 :: es0) env = (false, eval e0 env) :: starEach es0 env) → NoStars es0 → NoStars (e0 :: es0)
theorem ns_nil : NoStars [] := .nil
theorem ns_cons (h : NoStars es) (hs : ∀ env, starEach (e :: es) env = (false, eval e env) :: starEach es env := by intro _; rfl) : NoStars (e :: es) := .cons _ _ hs h
theorem pa_of {X : Cx} : ∀ {es : List Expr}, NoStars es → PA X es (fun σ H Q => WL X es σ H Q)
  | [], _ => pa_nil
  | e :: es, h => by
    cases h with
    | cons _ _ h1 h2 => exact pa_cons (pe_best X e) (pa_of h2) (h1 _)
theorem ns_head (h : NoStars (e :: es)) : ∀ env, starEach (e :: es) env = (false, eval e env) :: starEach es env := by
  cases h with
  | cons _ _ h1 h2 => exact h1
theorem ns_tail (h : NoStars (e :: es)) : NoStars es := by
  cases h with
  | cons _ _ h1 h2 => exact h2
theorem backTo_plain {pos : Pos} {es : List Expr} {env : PySem.Env} (h : NoStars es) : (backTo pos (starEach es env)).any (·.1) = false := by
  induction h with
  | nil => rfl
  | cons _ _ h1 h2 ih =>
    rw [h1]
    unfold backTo at ih ⊢
    simpa using ih
theorem sd_callB {id : String} (hn : NoStars (e :: es)) (h : Sods Γ (e :: es) ms) (ho : OkC Γ (.builtin id) F) (hg : Γ.glo x = true) (hm : Γ.cfg.mg x = none) (hv : bootBuiltins x = some (.builtin id)) (hx : x ≠ "__name__" := by decide) (hdb : (x == ("__debug__" : Str)) = false := by decide) :
    Sd Γ (.Call (.Name x p) (e :: es) [] pos) (mOp F ms) := ⟨fun X ok env o env' hm' σ H T hr Q q => by
  obtain ⟨ds, h1, h2⟩ := mOp_some hm'
  refine ⟨tCB (WC X (.builtin id)) (fun σ H Q => WL X (e :: es) σ H Q), pe_callB (call_best X _) (ok.glo hg) (by rw [ok.hmg]; exact hm) hv (pa_of hn) hx hdb (ns_head hn _) (backTo_plain (ns_tail hn)), ?_⟩
  exact h.ops.run X ok env ds env' h1 σ H T hr _ fun vs H' L hS hL back => ho X ok H' L vs ds _ hS hL h2 Q fun v H'' h'' => q v H'' (back H'' [_] h'')⟩
theorem sd_callTy {t : String} (hn : NoStars (e :: es)) (h : Sods Γ (e :: es) ms) (ho : OkC Γ (.type t) F) (hg : Γ.glo x = true) (hm : Γ.cfg.mg x = none) (hv : bootBuiltins x = some (.type t)) (hx : x ≠ "__name__" := by decide) (hdb : (x == ("__debug__" : Str)) = false := by decide) :
    Sd Γ (.Call (.Name x p) (e :: es) [] pos) (mOp F ms) := ⟨fun X ok env o env' hm' σ H T hr Q q => by
  obtain ⟨ds, h1, h2⟩ := mOp_some hm'
  refine ⟨tCB (WC X (.type t)) (fun σ H Q => WL X (e :: es) σ H Q), pe_callTy (call_best X _) (ok.glo hg) (by rw [ok.hmg]; exact hm) hv (pa_of hn) hx hdb (ns_head hn _) (backTo_plain (ns_tail hn)), ?_⟩
  exact h.ops.run X ok env ds env' h1 σ H T hr _ fun vs H' L hS hL back => ho X ok H' L vs ds _ hS hL h2 Q fun v H'' h'' => q v H'' (back H'' [_] h'')⟩
end
end BM

set_option Elab.async false
set_option linter.all false
set_option maxRecDepth 100000
set_option maxHeartbeats 4000000
/-! BM, part 5: tests, choices, displays, slices. -/
namespace BM
open PySem PySem.Spec PyProof.Rows L2

section
variable {Γ : Gm} {a b c e : Expr} {es rest : List Expr} {ms : List (M Od)} {F : List D → Option O} {pos p p2 : Pos} {x : Str}
/-! ### truth -/
theorem truth_ok {K : PySem.W.Frag} {H : Hp} {L : List It} {d : D} {v : V} {k : Bool} (h : St K H L) (l : Look L d v) (e : truthD d = some k) : TruV K v H k := by
  cases d with
  | non => rw [l.non h]; exact (Option.some.inj e).symm
  | bl b => rw [l.bl h]; exact (Option.some.inj e).symm
  | int i => rw [l.int h]; exact (Option.some.inj e).symm
  | str y =>
    rw [l.str h]
    have e' : (if y.length ≤ sizeLine then some ((y.length : Int) != 0) else none) = some k := e
    by_cases hy : y.length ≤ sizeLine
    · rw [if_pos hy] at e'
      exact ⟨hy, (Option.some.inj e').symm⟩
    · rw [if_neg hy] at e'; cases e'
  | tup ds =>
    obtain ⟨a, vs, rfl, h1, h2, h3⟩ := l.tup h
    have e' := Option.some.inj (show some (!ds.isEmpty) = some k from e)
    refine .inr (.inl ⟨vs, h1, ?_⟩)
    rw [← e']
    cases ds <;> cases vs <;> first | rfl | (simp at h2)
  | lst ds =>
    obtain ⟨a, vs, rfl, h1, h2, h3⟩ := l.lst h
    have e' := Option.some.inj (show some (!ds.isEmpty) = some k from e)
    refine .inl ⟨vs, h1, ?_⟩
    rw [← e']
    cases ds <;> cases vs <;> first | rfl | (simp at h2)
  | dct _ => cases e
  | obj _ _ _ => cases e
theorem sdT_tr {m : M Od} (h : Sod Γ a m) (he : ∀ (env : PySem.Env) whole, isTrue a env whole = (do let v ← whole; standAt a.pos; holding [v] (truthy v)) := by intro _ _; rfl) : SdT Γ a (mTst truth1 [m]) := ⟨fun X ok env o env' hm' σ H T hr Q q => by
  obtain ⟨ds, h1, h2⟩ := mTst_some hm'
  refine ⟨_, pt_truth (pe_best X a) (he X.env), ?_⟩
  refine (sods_cons h sods_nil).ops.run X ok env ds env' h1 σ H T hr (fun vs H' => match vs with | [x] => ∃ k, TruV X.K x H' k ∧ Q k H' | _ => True) fun vs H' L hS hL back => ?_
  cases hL with
  | nil => trivial
  | cons l1 hL =>
    cases hL with
    | cons _ _ => trivial
    | nil => exact ⟨o, by rw [ok.hK]; exact truth_ok hS l1 h2, q H' (back H' [] hS)⟩⟩
theorem sdT_not {t : M Bool} (h : SdT Γ a t) : SdT Γ (.UnaryOp .Not a pos) (tNot t) := ⟨fun X ok env b env' hm σ H T hr Q q => by
  obtain ⟨k, s1, h1, h2⟩ := mbind_some hm
  have e1 := Option.some.inj (show some (!k, s1) = some (b, env') from h2)
  injection e1 with e1 e2
  subst e1 e2
  exact ⟨_, pt_not (pt_best X a), h.run X ok env k s1 h1 σ H T hr _ fun H' r => q H' r⟩⟩
/-- tests whatever their whole is -/
def WW (X : Cx) (e : Expr) : TT := fun σ H Q => ∃ t, PW X e t ∧ t σ H Q
theorem pw_best (X : Cx) (e : Expr) : PW X e (WW X e) := ⟨fun wh pins s σ H Q I ⟨_, h, q⟩ => h.run wh pins s σ H Q I q⟩
structure SdW (Γ : Gm) (e : Expr) (m : M Bool) : Prop where
  run : ∀ X, Γ.Ok X → ∀ env b env', m env = some (b, env') → ∀ σ H T, RS Γ.cfg.K H env σ T → ∀ Q : Bool → Hp → Prop, (∀ H', RS Γ.cfg.K H' env' σ T → Q b H') → WW X e σ H Q
theorem sdT_w {t : M Bool} (h : SdW Γ a t) : SdT Γ a t := ⟨fun X ok env b env' hm σ H T hr Q q => ⟨_, (pw_best X a).pt, h.run X ok env b env' hm σ H T hr Q q⟩⟩
theorem sdW_and1 {t : M Bool} (h : SdT Γ a t) : SdW Γ (.BoolOp .And [a] pos) t := ⟨fun X ok env b env' hm σ H T hr Q q => ⟨_, pw_and1 (pt_best X a), h.run X ok env b env' hm σ H T hr Q q⟩⟩
theorem sdW_or1 {t : M Bool} (h : SdT Γ a t) : SdW Γ (.BoolOp .Or [a] pos) t := ⟨fun X ok env b env' hm σ H T hr Q q => ⟨_, pw_or1 (pt_best X a), h.run X ok env b env' hm σ H T hr Q q⟩⟩
theorem sdW_and {t u : M Bool} (h : SdT Γ a t) (hu : SdW Γ (.BoolOp .And (b :: rest) pos) u) : SdW Γ (.BoolOp .And (a :: b :: rest) pos) (tAnd t u) := ⟨fun X ok env k env' hm σ H T hr Q q => by
  obtain ⟨k1, s1, h1, h2⟩ := mbind_some hm
  refine ⟨_, pw_and (pt_best X a) (pw_best X _), h.run X ok env k1 s1 h1 σ H T hr _ fun H' r => ?_⟩
  cases k1 with
  | true =>
    rw [if_pos rfl] at h2 ⊢
    exact hu.run X ok s1 k env' h2 σ H' T r Q q
  | false =>
    rw [if_neg Bool.false_ne_true] at h2 ⊢
    have e1 := Option.some.inj (show some (false, s1) = some (k, env') from h2)
    injection e1 with e1 e2
    subst e1 e2
    exact q H' r⟩
theorem sdW_or {t u : M Bool} (h : SdT Γ a t) (hu : SdW Γ (.BoolOp .Or (b :: rest) pos) u) : SdW Γ (.BoolOp .Or (a :: b :: rest) pos) (tOr t u) := ⟨fun X ok env k env' hm σ H T hr Q q => by
  obtain ⟨k1, s1, h1, h2⟩ := mbind_some hm
  refine ⟨_, pw_or (pt_best X a) (pw_best X _), h.run X ok env k1 s1 h1 σ H T hr _ fun H' r => ?_⟩
  cases k1 with
  | false =>
    rw [if_neg Bool.false_ne_true] at h2 ⊢
    exact hu.run X ok s1 k env' h2 σ H' T r Q q
  | true =>
    rw [if_pos rfl] at h2 ⊢
    have e1 := Option.some.inj (show some (true, s1) = some (k, env') from h2)
    injection e1 with e1 e2
    subst e1 e2
    exact q H' r⟩
/-! ### choices -/
theorem sd_if {t : M Bool} {ma mb : M O} (h : SdT Γ c t) (ha : Sd Γ a ma) (hb : Sd Γ b mb) : Sd Γ (.IfExp c a b pos) (mIf t ma mb) := ⟨fun X ok env o env' hm σ H T hr Q q => by
  obtain ⟨k1, s1, h1, h2⟩ := mbind_some hm
  refine ⟨_, pe_ifExp (pt_best X c) (pe_best X a) (pe_best X b), h.run X ok env k1 s1 h1 σ H T hr _ fun H' r => ?_⟩
  cases k1 with
  | true =>
    rw [if_pos rfl] at h2 ⊢
    exact ha.run X ok s1 o env' h2 σ H' T r Q q
  | false =>
    rw [if_neg Bool.false_ne_true] at h2 ⊢
    exact hb.run X ok s1 o env' h2 σ H' T r Q q⟩
theorem rs_truth {K : PySem.W.Frag} {H : Hp} {env : Env} {σ : L2.St} {T : List It} {d : D} {v : V} {k : Bool} (r : RS K H env σ (.rep (.d d) v :: T)) (e : truthD d = some k) : TruV K v H k := by
  obtain ⟨L, hE, hS⟩ := r
  exact truth_ok hS ⟨.d d, List.mem_cons_self, rfl⟩ e
theorem sd_one {op} {m : M O} (h : Sd Γ a m) : Sd Γ (.BoolOp op [a] pos) m := ⟨fun X ok env o env' hm σ H T hr Q q => ⟨_, pe_one (pe_best X a), h.run X ok env o env' hm σ H T hr Q q⟩⟩
theorem sd_or {ma mb : M O} (ha : Sd Γ a ma) (hb : Sd Γ (.BoolOp .Or (b :: rest) pos) mb) : Sd Γ (.BoolOp .Or (a :: b :: rest) pos) (mOr ma mb) := ⟨fun X ok env o env' hm σ H T hr Q q => by
  obtain ⟨o1, s1, h1, h2⟩ := mbind_some hm
  refine ⟨_, pe_orT (pe_best X a) (pe_best X _), ha.run X ok env o1 s1 h1 σ H T hr _ fun v H' r => ?_⟩
  have r1 := r.freeze
  cases q1 : truthD o1.toD with
  | none => simp only [q1] at h2; cases h2
  | some k =>
    simp only [q1] at h2
    refine ⟨k, by rw [ok.hK]; exact rs_truth r1 q1, ?_⟩
    cases k with
    | true =>
      rw [if_pos rfl] at h2 ⊢
      have e1 := Option.some.inj (show some (O.d o1.toD, s1) = some (o, env') from h2)
      injection e1 with e1 e2
      subst e1 e2
      exact q v H' r1
    | false =>
      rw [if_neg Bool.false_ne_true] at h2 ⊢
      exact hb.run X ok s1 o env' h2 σ H' T r1.drop Q q⟩
theorem sd_and {ma mb : M O} (ha : Sd Γ a ma) (hb : Sd Γ (.BoolOp .And (b :: rest) pos) mb) : Sd Γ (.BoolOp .And (a :: b :: rest) pos) (mAnd ma mb) := ⟨fun X ok env o env' hm σ H T hr Q q => by
  obtain ⟨o1, s1, h1, h2⟩ := mbind_some hm
  refine ⟨_, pe_andT (pe_best X a) (pe_best X _), ha.run X ok env o1 s1 h1 σ H T hr _ fun v H' r => ?_⟩
  have r1 := r.freeze
  cases q1 : truthD o1.toD with
  | none => simp only [q1] at h2; cases h2
  | some k =>
    simp only [q1] at h2
    refine ⟨k, by rw [ok.hK]; exact rs_truth r1 q1, ?_⟩
    cases k with
    | false =>
      rw [if_neg Bool.false_ne_true] at h2 ⊢
      have e1 := Option.some.inj (show some (O.d o1.toD, s1) = some (o, env') from h2)
      injection e1 with e1 e2
      subst e1 e2
      exact q v H' r1
    | true =>
      rw [if_pos rfl] at h2 ⊢
      exact hb.run X ok s1 o env' h2 σ H' T r1.drop Q q⟩
/-- not x as a value -/
def mNot (m : M Od) : M O := fun s => match mTst truth1 [m] s with
  | some (b, s') => some (.d (.bl (!b)), s')
  | none => none
theorem sd_not {m : M Od} (h : Sod Γ a m) : Sd Γ (.UnaryOp .Not a pos) (mNot m) := ⟨fun X ok env o env' hm σ H T hr Q q => by
  unfold mNot at hm
  cases q0 : mTst truth1 [m] env with
  | none => rw [q0] at hm; cases hm
  | some p =>
    obtain ⟨b, s'⟩ := p
    rw [q0] at hm
    have e1 := Option.some.inj hm
    injection e1 with e1 e2
    subst e1 e2
    obtain ⟨ds, h1, h2⟩ := mTst_some q0
    refine ⟨_, pe_notT (pe_best X a), ?_⟩
    refine (sods_cons h sods_nil).ops.run X ok env ds s' h1 σ H T hr (fun vs H' => match vs with | [x] => ∃ k, TruV X.K x H' k ∧ Q (.bl (!k)) H' | _ => True) fun vs H' L hS hL back => ?_
    cases hL with
    | nil => trivial
    | cons l1 hL =>
      cases hL with
      | cons _ _ => trivial
      | nil => exact ⟨b, by rw [ok.hK]; exact truth_ok hS l1 h2, q _ H' (back H' [_] (hS.flat rfl))⟩⟩
/-! ### displays -/
structure Sar (Γ : Gm) (es : List Expr) (m : M (List O)) : Prop where
  run : ∀ X, Γ.Ok X → ∀ env os env', m env = some (os, env') → ∀ σ H T, RS Γ.cfg.K H env σ T → ∀ Q : List V → Hp → Prop,
    (∀ vs H', os.length = vs.length → RS Γ.cfg.K H' env' σ (reps os vs ++ T) → Q vs H') → WL X es σ H Q
theorem sar_nil : Sar Γ [] (mArgs []) := ⟨fun X ok env os env' hm σ H T hr Q q => by
  have e1 := Option.some.inj (show some (([] : List O), env) = some (os, env') from hm)
  injection e1 with e1 e2
  subst e1 e2
  exact q [] H rfl hr⟩
theorem sar_cons {m : M O} {ms : List (M O)} (h : Sd Γ e m) (hs : Sar Γ es (mArgs ms)) : Sar Γ (e :: es) (mArgs (m :: ms)) := ⟨fun X ok env os env' hm σ H T hr Q q => by
  obtain ⟨a, s1, h1, h2⟩ := mbind_some (show mbind m (fun a => mbind (mArgs ms) fun l => mpure (a :: l)) env = _ from hm)
  obtain ⟨l, s2, h3, h4⟩ := mbind_some h2
  have e1 := Option.some.inj (show some (a :: l, s2) = some (os, env') from h4)
  injection e1 with e1 e2
  subst e1 e2
  refine h.run X ok env a s1 h1 σ H T hr _ fun v H1 r1 => ?_
  refine hs.run X ok s1 l s2 h3 σ H1 (.rep a v :: T) r1 _ fun vs H2 l2 r2 => ?_
  refine q (v :: vs) H2 (by simp [l2]) (r2.perm ?_)
  exact List.perm_middle⟩
theorem reps_app {K : PySem.W.Frag} {H : Hp} {L : List It} : ∀ {os : List O} {vs : List V}, os.length = vs.length → St K H (reps os vs ++ L) → St K H (reps (leaf (O.toDs os)) vs ++ L)
  | [], [], _, h => h
  | o :: os, v :: vs, hl, h => by
    have h1 : St K H (.rep o v :: (reps os vs ++ L)) := h
    have h2 := h1.freeze
    have h3 : St K H (reps os vs ++ (.rep (.d o.toD) v :: L)) := h2.perm List.perm_middle.symm
    have h4 := reps_app (os := os) (vs := vs) (by simpa using hl) h3
    exact h4.perm List.perm_middle
  | [], _ :: _, hl, _ => by cases hl
  | _ :: _, [], hl, _ => by cases hl
theorem toDs_len : ∀ os : List O, (O.toDs os).length = os.length
  | [] => rfl
  | o :: os => by rw [O.toDs, List.length_cons, List.length_cons, toDs_len os]
theorem sd_tup {ms : List (M O)} {k} (hn : NoStars es) (h : Sar Γ es (mArgs ms)) (hz : es.length ≤ 1000 := by decide) : Sd Γ (.Tuple es k pos) (mTup ms) := ⟨fun X ok env o env' hm σ H T hr Q q => by
  obtain ⟨os, s1, h1, h2⟩ := mbind_some hm
  have e1 := Option.some.inj (show some (O.d (.tup (O.toDs os)), s1) = some (o, env') from h2)
  injection e1 with e1 e2
  subst e1 e2
  refine ⟨_, pe_tup (pa_of hn), ?_⟩
  have key : ∀ (es : List Expr) (σ : L2.St) (H : Hp) (Q Q' : List V → Hp → Prop), WL X es σ H Q → (∀ vs H', vs.length = es.length → Q vs H' → Q' vs H') → WL X es σ H Q' := by
    intro es
    induction es with
    | nil => intro σ H Q Q' w k; exact k [] H rfl w
    | cons e es ih => intro σ H Q Q' w k; exact WE.mono w fun v H' w' => ih σ H' _ _ w' fun vs H'' l z => k (v :: vs) H'' (by simp [l]) z
  refine key es σ H _ _ (h.run X ok env os s1 h1 σ H T hr (fun vs H' => os.length = vs.length ∧ RS Γ.cfg.K H' s1 σ (reps os vs ++ T)) fun vs H' l r => ⟨l, r⟩) fun vs H' hl ⟨l, r⟩ => ⟨by rw [hl]; exact Nat.le_trans hz (by decide), fun p hp => q _ _ ?_⟩
  refine r.lift fun L hS => ?_
  rw [List.append_assoc] at hS
  have h3 := reps_app l hS
  exact St.close_tup (by rw [toDs_len]; exact l) (St.alloc hp h3)⟩
theorem sd_lst {ms : List (M O)} (hn : NoStars es) (h : Sar Γ es (mArgs ms)) (hz : es.length ≤ 1000 := by decide) : Sd Γ (.List es pos) (mLst ms) := ⟨fun X ok env o env' hm σ H T hr Q q => by
  obtain ⟨os, s1, h1, h2⟩ := mbind_some hm
  have e1 := Option.some.inj (show some (O.lst os, s1) = some (o, env') from h2)
  injection e1 with e1 e2
  subst e1 e2
  refine ⟨_, pe_lst (pa_of hn), ?_⟩
  have key : ∀ (es : List Expr) (σ : L2.St) (H : Hp) (Q Q' : List V → Hp → Prop), WL X es σ H Q → (∀ vs H', vs.length = es.length → Q vs H' → Q' vs H') → WL X es σ H Q' := by
    intro es
    induction es with
    | nil => intro σ H Q Q' w k; exact k [] H rfl w
    | cons e es ih => intro σ H Q Q' w k; exact WE.mono w fun v H' w' => ih σ H' _ _ w' fun vs H'' l z => k (v :: vs) H'' (by simp [l]) z
  refine key es σ H _ _ (h.run X ok env os s1 h1 σ H T hr (fun vs H' => os.length = vs.length ∧ RS Γ.cfg.K H' s1 σ (reps os vs ++ T)) fun vs H' l r => ⟨l, r⟩) fun vs H' hl ⟨l, r⟩ => ⟨by rw [hl]; exact Nat.le_trans hz (by decide), fun p hp => q _ _ ?_⟩
  refine r.lift fun L hS => ?_
  rw [List.append_assoc] at hS
  exact St.close_lst l (St.alloc hp hS)⟩

/-! ### slices -/
/-- what a slice of a value is -/
def WS (X : Cx) : V → Option Int → Option Int → Hp → VK → Prop := fun x lo hi H Q => ∃ r, SlR X r ∧ r x lo hi H Q
theorem sl_best (X : Cx) : SlR X (WS X) := fun pins s σ H x v vl vu lo hi sl Q I rx h1 h2 h3 ⟨_, h, q⟩ => h pins s σ H x v vl vu lo hi sl Q I rx h1 h2 h3 q
def cutD (l : List D) (lo hi : Option Int) : List D := (l.drop (HT.sIx l.length 0 lo)).take (HT.sIx l.length l.length hi - HT.sIx l.length 0 lo)
def fSlice (lo hi : Option Int) : D → Option O
  | .lst l => some (.lst (leaf (cutD l lo hi)))
  | .tup l => some (.d (.tup (cutD l lo hi)))
  | .str z => if z.length ≤ sizeLine then some (.d (.str (cutS z lo hi))) else none
  | _ => none
theorem reps_take {ds : List D} {vs : List V} (n : Nat) : reps (leaf (ds.take n)) (vs.take n) = (reps (leaf ds) vs).take n := by
  induction n generalizing ds vs with
  | zero => rfl
  | succ n ih =>
    cases ds with
    | nil => rfl
    | cons d ds =>
      cases vs with
      | nil => rfl
      | cons v vs =>
        show .rep (.d d) v :: reps (leaf (ds.take n)) (vs.take n) = .rep (.d d) v :: (reps (leaf ds) vs).take n
        rw [ih]
theorem reps_drop {ds : List D} {vs : List V} (hl : ds.length = vs.length) (n : Nat) : reps (leaf (ds.drop n)) (vs.drop n) = (reps (leaf ds) vs).drop n := by
  induction n generalizing ds vs with
  | zero => rfl
  | succ n ih =>
    cases ds with
    | nil =>
      cases vs with
      | nil => rfl
      | cons => cases hl
    | cons d ds =>
      cases vs with
      | nil => cases hl
      | cons v vs => exact ih (by simpa using hl)
theorem fSlice_ok {X : Cx} (ok : Γ.Ok X) {H : Hp} {L : List It} {v : V} {d : D} {o : O} {lo hi : Option Int} (hS : St Γ.cfg.K H L) (l : Look L d v) (hF : fSlice lo hi d = some o) {Q : VK} (q : ∀ v H', St Γ.cfg.K H' (.rep o v :: L) → Q v H') : WS X v lo hi H Q := by
  cases d with
  | lst ds =>
    have e := Option.some.inj (show some (O.lst (leaf (cutD ds lo hi))) = some o from hF)
    subst e
    obtain ⟨a, vs, rfl, h1, h2, h3⟩ := l.lst hS
    refine ⟨_, sl_list, a, vs, rfl, by rw [ok.hK]; exact h1, fun p hp => q _ _ ?_⟩
    refine St.close_lst ?_ (St.alloc hp ?_)
    · unfold cutD cutV; simp [h2]
    · unfold cutD cutV
      rw [h2, reps_take, reps_drop h2]
      exact h3.sub (((List.take_sublist _ _).trans (List.drop_sublist _ _)).append_right L)
  | tup ds =>
    have e := Option.some.inj (show some (O.d (.tup (cutD ds lo hi))) = some o from hF)
    subst e
    obtain ⟨o1, hm, hf⟩ := id l
    obtain ⟨a, vs, rfl, h1, h2, h3⟩ := l.tup hS
    refine ⟨_, sl_tupA, a, vs, rfl, by rw [ok.hK]; exact h1, fun hw => q _ _ ?_, fun hw p hp => q _ _ ?_⟩
    · obtain ⟨r, pm⟩ := mem_perm hm
      have z := (hS.perm pm).freeze
      rw [flat_toD hf] at z
      rw [show cutD ds lo hi = ds by
        unfold cutD
        rw [h2, hw.1, hw.2, List.drop_zero, Nat.sub_zero, ← h2, List.take_length]]
      -- keep the item beside its copy
      cases o1 with
      | d y =>
        have ey := Option.some.inj (show some y = some (D.tup ds) from hf)
        subst ey
        exact ((hS.perm pm).dup).perm ((pm.symm).cons _)
      | lst os =>
        have h' : (match O.leafs os with | some l => some (D.lst l) | none => none) = some (D.tup ds) := hf
        cases q : O.leafs os with
        | none => rw [q] at h'; cases h'
        | some l => rw [q] at h'; cases h'
      | dct ks os =>
        have h' : (match O.leafs os with | some l => some (D.dct (ks.zip l)) | none => none) = some (D.tup ds) := hf
        cases q : O.leafs os with
        | none => rw [q] at h'; cases h'
        | some l => rw [q] at h'; cases h'
      | obj C ns os =>
        have h' : (match O.leafs os with | some l => some (D.obj C ns l) | none => none) = some (D.tup ds) := hf
        cases q : O.leafs os with
        | none => rw [q] at h'; cases h'
        | some l => rw [q] at h'; cases h'
    · refine St.close_tup ?_ (St.alloc hp ?_)
      · unfold cutD cutV; simp [h2]
      · unfold cutD cutV
        rw [h2, reps_take, reps_drop h2]
        exact h3.sub (((List.take_sublist _ _).trans (List.drop_sublist _ _)).append_right L)
  | str z =>
    have hF' : (if z.length ≤ sizeLine then some (O.d (.str (cutS z lo hi))) else none) = some o := hF
    by_cases hz : z.length ≤ sizeLine
    · rw [if_pos hz] at hF'
      have e := Option.some.inj hF'
      subst e
      rw [l.str hS]
      exact ⟨_, sl_str, z, rfl, hz, q _ H (hS.flat rfl)⟩
    · rw [if_neg hz] at hF'; cases hF'
  | _ => cases hF
def fSl0 : List D → Option O
  | [d] => fSlice none none d
  | _ => none
def fSlL : List D → Option O
  | [d, .int i] => fSlice (some i) none d
  | _ => none
def fSlH : List D → Option O
  | [d, .int i] => fSlice none (some i) d
  | _ => none
def fSlB : List D → Option O
  | [d, .int i, .int j] => fSlice (some i) (some j) d
  | _ => none
theorem two_int {f : D → Int → Option O} {G : List D → Option O} (hG : ∀ ds o, G ds = some o → ∃ d i, ds = [d, .int i] ∧ f d i = some o) {ds : List D} {o : O} (h : G ds = some o) : ∃ d i, ds = [d, .int i] ∧ f d i = some o := hG ds o h
theorem fSlL_some {ds : List D} {o : O} (h : fSlL ds = some o) : ∃ d i, ds = [d, .int i] ∧ fSlice (some i) none d = some o := by
  unfold fSlL at h
  split at h
  · exact ⟨_, _, rfl, h⟩
  · cases h
theorem fSlH_some {ds : List D} {o : O} (h : fSlH ds = some o) : ∃ d i, ds = [d, .int i] ∧ fSlice none (some i) d = some o := by
  unfold fSlH at h
  split at h
  · exact ⟨_, _, rfl, h⟩
  · cases h
theorem fSlB_some {ds : List D} {o : O} (h : fSlB ds = some o) : ∃ d i j, ds = [d, .int i, .int j] ∧ fSlice (some i) (some j) d = some o := by
  unfold fSlB at h
  split at h
  · exact ⟨_, _, _, rfl, h⟩
  · cases h
theorem fSl0_some {ds : List D} {o : O} (h : fSl0 ds = some o) : ∃ d, ds = [d] ∧ fSlice none none d = some o := by
  unfold fSl0 at h
  split at h
  · exact ⟨_, rfl, h⟩
  · cases h
theorem sd_sl0 (h : Sods Γ [a] ms) : Sd Γ (.Subscript a (.Slice none none none p2) pos) (mOp fSl0 ms) := ⟨fun X ok env o env' hm σ H T hr Q q => by
  obtain ⟨ds, h1, h2⟩ := mOp_some hm
  obtain ⟨d, rfl, h2⟩ := fSl0_some h2
  refine ⟨_, pe_slice (sl_best X) (pe_best X a) po_none po_none, ?_⟩
  refine h.ops.run X ok env _ env' h1 σ H T hr (fun vs H' => match vs with | [x] => WS X x none none H' Q | _ => True) fun vs H' L hS hL back => ?_
  cases hL with
  | cons l1 hL =>
    cases hL with
    | nil => exact fSlice_ok ok hS l1 h2 fun v H'' h'' => q v H'' (back H'' [_] h'')⟩
theorem sd_slL (h : Sods Γ [a, b] ms) : Sd Γ (.Subscript a (.Slice (some b) none none p2) pos) (mOp fSlL ms) := ⟨fun X ok env o env' hm σ H T hr Q q => by
  obtain ⟨ds, h1, h2⟩ := mOp_some hm
  obtain ⟨d, i, rfl, h2⟩ := fSlL_some h2
  refine ⟨_, pe_slice (sl_best X) (pe_best X a) (po_some (pe_best X b)) po_none, ?_⟩
  refine h.ops.run X ok env _ env' h1 σ H T hr (fun vs H' => match vs with | [x, y] => ∃ i, y = .int i ∧ WS X x (some i) none H' Q | _ => True) fun vs H' L hS hL back => ?_
  cases hL with
  | cons l1 hL =>
    cases hL with
    | cons l2 hL =>
      cases hL with
      | nil => exact ⟨i, l2.int hS, fSlice_ok ok hS l1 h2 fun v H'' h'' => q v H'' (back H'' [_] h'')⟩⟩
theorem sd_slH (h : Sods Γ [a, b] ms) : Sd Γ (.Subscript a (.Slice none (some b) none p2) pos) (mOp fSlH ms) := ⟨fun X ok env o env' hm σ H T hr Q q => by
  obtain ⟨ds, h1, h2⟩ := mOp_some hm
  obtain ⟨d, i, rfl, h2⟩ := fSlH_some h2
  refine ⟨_, pe_slice (sl_best X) (pe_best X a) po_none (po_some (pe_best X b)), ?_⟩
  refine h.ops.run X ok env _ env' h1 σ H T hr (fun vs H' => match vs with | [x, y] => ∃ i, y = .int i ∧ WS X x none (some i) H' Q | _ => True) fun vs H' L hS hL back => ?_
  cases hL with
  | cons l1 hL =>
    cases hL with
    | cons l2 hL =>
      cases hL with
      | nil => exact ⟨i, l2.int hS, fSlice_ok ok hS l1 h2 fun v H'' h'' => q v H'' (back H'' [_] h'')⟩⟩
theorem mval_some {m : M O} {env : Env} {r : Od × Env} (h : mval m env = some r) : ∃ o, m env = some (o, r.2) ∧ r.1 = .val o.toD := by
  unfold mval at h
  cases q : m env with
  | none => rw [q] at h; cases h
  | some p =>
    obtain ⟨o, s'⟩ := p
    rw [q] at h
    have e := Option.some.inj h
    subst e
    exact ⟨o, rfl, rfl⟩
theorem odsGet3 {s : Env} {a : Od} {x y : D} : odsGet s [a, .val x, .val y] = (match a.get s with | some d => some [d, x, y] | none => none) := by
  have e : odsGet s [.val x, .val y] = some [x, y] := rfl
  rw [odsGet, e]
  cases a.get s <;> rfl
theorem odsGet1 {s : Env} {a : Od} {d : D} (h : a.get s = some d) : odsGet s [a] = some [d] := by
  rw [odsGet, h]; rfl
theorem sd_slB {ma : M Od} {mb mc : M O} (ha : Sod Γ a ma) (hb : Sd Γ b mb) (hc : Sd Γ c mc) : Sd Γ (.Subscript a (.Slice (some b) (some c) none p2) pos) (mOp fSlB [ma, mval mb, mval mc]) := ⟨fun X ok env o env' hm σ H T hr Q q => by
  obtain ⟨ds, h1, h2⟩ := mOp_some hm
  obtain ⟨d, i, j, rfl, h2⟩ := fSlB_some h2
  unfold mops at h1
  cases q1 : mods [ma, mval mb, mval mc] env with
  | none => rw [q1] at h1; cases h1
  | some p =>
    obtain ⟨ods, s3⟩ := p
    rw [q1] at h1
    obtain ⟨oa, s1, g1, g2⟩ := mbind_some (show mbind ma (fun a => mbind (mods [mval mb, mval mc]) fun l => mpure (a :: l)) env = _ from q1)
    obtain ⟨l1, s2', g3, g4⟩ := mbind_some g2
    obtain ⟨ob, s2, g5, g6⟩ := mbind_some (show mbind (mval mb) (fun a => mbind (mods [mval mc]) fun l => mpure (a :: l)) s1 = _ from g3)
    obtain ⟨l2, s3', g7, g8⟩ := mbind_some g6
    obtain ⟨oc, s4, g9, g10⟩ := mbind_some (show mbind (mval mc) (fun a => mbind (mods []) fun l => mpure (a :: l)) s2 = _ from g7)
    have e10 := Option.some.inj (show some ([oc], s4) = some (l2, s3') from g10)
    injection e10 with e10 e11
    subst e10 e11
    have e8 := Option.some.inj (show some ([ob, oc], s4) = some (l1, s2') from g8)
    injection e8 with e8 e9
    subst e8 e9
    have e4 := Option.some.inj (show some ([oa, ob, oc], s4) = some (ods, s3) from g4)
    injection e4 with e4 e5
    subst e4 e5
    obtain ⟨vb, hb1, hb2⟩ := mval_some g5
    obtain ⟨vc, hc1, hc2⟩ := mval_some g9
    have hb2 : ob = .val vb.toD := hb2
    have hc2 : oc = .val vc.toD := hc2
    subst hb2 hc2
    have h3 : odsGet s4 [oa, .val vb.toD, .val vc.toD] = some [d, .int i, .int j] ∧ s4 = env' := by
      simp only at h1
      cases q2 : odsGet s4 [oa, .val vb.toD, .val vc.toD] with
      | none => rw [q2] at h1; cases h1
      | some z =>
        rw [q2] at h1
        have e := Option.some.inj h1
        injection e with e1 e2
        exact ⟨by rw [e1], e2⟩
    obtain ⟨h3, rfl⟩ := h3
    have hi : vb.toD = .int i ∧ vc.toD = .int j := by
      rw [odsGet3] at h3
      cases q3 : oa.get s4 with
      | none => rw [q3] at h3; cases h3
      | some d' =>
        rw [q3] at h3
        have e := Option.some.inj h3
        injection e with _ e
        injection e with e1 e
        injection e with e2 _
        exact ⟨e1, e2⟩
    refine ⟨_, pe_slice (sl_best X) (pe_best X a) (po_some (pe_best X b)) (po_some (pe_best X c)), ?_⟩
    refine ha.run X ok env oa s1 g1 σ H T hr _ fun x H1 r1 at1 => ?_
    refine hb.run X ok s1 vb s2 hb1 σ H1 _ r1 _ fun y H2 r2 => ?_
    have r2 := r2.freeze
    rw [hi.1] at r2
    have ey : y = .int i := by
      obtain ⟨L, _, hS⟩ := r2
      exact hS.intv
    refine ⟨i, ey, ?_⟩
    refine hc.run X ok s2 vc s4 hc1 σ H2 _ r2 _ fun z H3 r3 => ?_
    have r3 := r3.freeze
    rw [hi.2] at r3
    have ez : z = .int j := by
      obtain ⟨L, _, hS⟩ := r3
      exact hS.intv
    refine ⟨j, ez, ?_⟩
    -- what is cut
    have r4 : RS Γ.cfg.K H3 s4 σ (oa.its x ++ T) := r3.drop.drop
    obtain ⟨L, hE, hS⟩ := r4
    have lk : Looks (oa.its x ++ T ++ L) [d] [x] := by
      refine looks_of (K := Γ.cfg.K) (H := H3) hE (ods := [oa]) ?_ rfl (fun p hp => ?_) fun p hp y hy => ?_
      · cases q3 : oa.get s4 with
        | none => rw [odsGet3, q3] at h3; cases h3
        | some d' =>
          rw [odsGet3, q3] at h3
          have e := Option.some.inj h3
          injection e with e _
          subst e
          exact odsGet1 q3
      · have e : p = (oa, x) := by simpa using hp
        subst e; exact at1
      · have e : p = (oa, x) := by simpa using hp
        subst e
        exact List.mem_append_left _ hy
    cases lk with
    | cons l1 _ => exact fSlice_ok ok hS l1 h2 fun v H'' h'' => q v H'' ⟨L, hE, h''.sub (by
        show List.Sublist (.rep o v :: (T ++ L)) (.rep o v :: (oa.its x ++ T ++ L))
        rw [List.append_assoc]
        exact .cons₂ _ (List.sublist_append_right _ _))⟩⟩
end
end BM

set_option Elab.async false
set_option linter.all false
set_option maxRecDepth 100000
set_option maxHeartbeats 4000000
/-! BM, part 6: targets, statements, loops, comprehensions. -/
namespace BM
open PySem PySem.Spec PyProof.Rows L2

/-! ### readings left open -/
def WSt (X : Cx) (st : Stmt) : TS := fun D σ H => ∃ t, PS X st t ∧ t D σ H
theorem ps_best (X : Cx) (st : Stmt) : PS X st (WSt X st) := ⟨fun pins s σ H D I ⟨_, h, q⟩ => h.run pins s σ H D I q⟩
def WSs (X : Cx) (sts : List Stmt) : TS := fun D σ H => ∃ t, PSs X sts t ∧ t D σ H
theorem pss_best (X : Cx) (sts : List Stmt) : PSs X sts (WSs X sts) := ⟨fun pins s σ H D I ⟨_, h, q⟩ => h.run pins s σ H D I q⟩
def WG (X : Cx) (tg : Expr) : TG := fun v σ H Q => ∃ t, PG X tg t ∧ t v σ H Q
theorem pg_best (X : Cx) (tg : Expr) : PG X tg (WG X tg) := ⟨fun pins s σ H v u Q I r ⟨_, h, q⟩ => h.run pins s σ H v u Q I r q⟩
def WGs (X : Cx) (ts : List Expr) : TGs := fun vs σ H Q => ∃ t, PGs X ts t ∧ t vs σ H Q
theorem pgs_best (X : Cx) (ts : List Expr) : PGs X ts (WGs X ts) := ⟨fun pins s σ H vs us Q I r ⟨_, h, q⟩ => h.run pins s σ H vs us Q I r q⟩
def WIt (X : Cx) (tg iter : Expr) : TI := fun σ H R => ∃ wi, PI X tg iter wi ∧ wi σ H R
theorem pi_best (X : Cx) (tg iter : Expr) : PI X tg iter (WIt X tg iter) := ⟨fun pins s σ H R I ⟨_, h, q⟩ => h.run pins s σ H R I q⟩

/-- slots outside A are as they were -/
def Kp (A : List Nat) (σ σ' : L2.St) : Prop := σ'.length = σ.length ∧ ∀ i, i ∉ A → σ'[i]? = σ[i]?
theorem Kp.refl (A : List Nat) (σ : L2.St) : Kp A σ σ := ⟨rfl, fun _ _ => rfl⟩
theorem Kp.trans {A B : List Nat} {σ σ1 σ2 : L2.St} (a : Kp A σ σ1) (b : Kp B σ1 σ2) : Kp (A ++ B) σ σ2 :=
  ⟨b.1.trans a.1, fun i hi => (b.2 i fun z => hi (List.mem_append_right _ z)).trans (a.2 i fun z => hi (List.mem_append_left _ z))⟩
theorem Kp.wide {A B : List Nat} {σ σ1 : L2.St} (a : Kp A σ σ1) (h : ∀ i ∈ A, i ∈ B) : Kp B σ σ1 := ⟨a.1, fun i hi => a.2 i fun z => hi (h i z)⟩
theorem Kp.idem {A : List Nat} {σ σ1 σ2 : L2.St} (a : Kp A σ σ1) (b : Kp A σ1 σ2) : Kp A σ σ2 := ⟨b.1.trans a.1, fun i hi => (b.2 i hi).trans (a.2 i hi)⟩
theorem Kp.set {σ : L2.St} {i : Nat} {x : Option V} : Kp [i] σ (σ.set i x) := ⟨by simp, fun j hj => by
  rw [List.getElem?_set_ne]
  intro e; subst e; exact hj (List.mem_singleton.mpr rfl)⟩

/-! ### targets -/
structure Sg (Γ : Gm) (tg : Expr) (g : D → M Unit) (A : List Nat) : Prop where
  run : ∀ X, Γ.Ok X → ∀ env d env', g d env = some ((), env') → ∀ σ H T v, RS Γ.cfg.K H env σ (.rep (.d d) v :: T) → ∀ Q : L2.St → Hp → Prop, (∀ σ' H', RS Γ.cfg.K H' env' σ' T → Kp A σ σ' → Q σ' H') → WG X tg v σ H Q
structure Sgs (Γ : Gm) (ts : List Expr) (gs : List (D → M Unit)) (A : List Nat) : Prop where
  run : ∀ X, Γ.Ok X → ∀ env ds env', gTs gs ds env = some ((), env') → ∀ σ H T vs, ds.length = vs.length → RS Γ.cfg.K H env σ (reps (leaf ds) vs ++ T) → ∀ Q : L2.St → Hp → Prop, (∀ σ' H', RS Γ.cfg.K H' env' σ' T → Kp A σ σ' → Q σ' H') → WGs X ts vs σ H Q
theorem mset_some {i : Nat} {o : O} {env : Env} {r : Unit × Env} (h : mset i o env = some r) : i < env.length ∧ r.2 = env.set i (some o) := by
  unfold mset at h
  by_cases hi : i < env.length
  · rw [if_pos hi] at h
    have e := Option.some.inj h
    subst e
    exact ⟨hi, rfl⟩
  · rw [if_neg hi] at h; cases h
section
variable {Γ : Gm} {e : Expr} {p pos : Pos} {x : Str}
theorem sg_nm (i : Nat) (hN : Γ.N[i]? = some x := by rfl) (hs : Γ.sto x = true := by kernel_rfl) (nd : Γ.N.Nodup := by assumption) : Sg Γ (.Name x p) (gNm i) [i] := ⟨fun X ok env d env' hm σ H T v hr Q q => by
  obtain ⟨h1, h2⟩ := mset_some (show mset i (.d d) env = _ from hm)
  have h2 : env' = env.set i (some (.d d)) := h2
  subst h2
  obtain ⟨l1, l2⟩ := ok.sto hs
  exact ⟨gName i, pg_name (by rw [ok.hN]; exact nd) (by rw [ok.hN]; exact hN) l1 l2, q _ H (hr.put h1) Kp.set⟩⟩
theorem sgs_nil : Sgs Γ [] [] [] := ⟨fun X ok env ds env' hm σ H T vs hl hr Q q => by
  cases ds with
  | nil =>
    cases vs with
    | nil =>
      have e1 := Option.some.inj (show some ((), env) = some ((), env') from hm)
      injection e1 with _ e1
      subst e1
      exact ⟨gNil, pgs_nil, rfl, q σ H hr (Kp.refl _ _)⟩
    | cons => cases hl
  | cons => cases hm⟩
theorem sgs_cons {ts : List Expr} {g : D → M Unit} {gs : List (D → M Unit)} {A B : List Nat} (h : Sg Γ e g A) (hs : Sgs Γ ts gs B)
    (ha : ∀ env : PySem.Env, (assignEach (e :: ts) env).map (·.2) = assign e env :: (assignEach ts env).map (·.2) := by intro _; rfl) : Sgs Γ (e :: ts) (g :: gs) (A ++ B) := ⟨fun X ok env ds env' hm σ H T vs hl hr Q q => by
  cases ds with
  | nil => cases hm
  | cons d ds =>
    cases vs with
    | nil => cases hl
    | cons v vs =>
      obtain ⟨_, s1, h1, h2⟩ := mbind_some (show mbind (g d) (fun _ => gTs gs ds) env = _ from hm)
      refine ⟨gCons (WG X e) (WGs X ts), pgs_cons (pg_best X e) (pgs_best X ts) (ha X.env), v, vs, rfl, ?_⟩
      refine h.run X ok env d s1 h1 σ H (reps (leaf ds) vs ++ T) v hr _ fun σ1 H1 r1 k1 => ?_
      exact hs.run X ok s1 ds env' h2 σ1 H1 T vs (by simpa using hl) r1 _ fun σ2 H2 r2 k2 => q σ2 H2 r2 (k1.trans k2)⟩
theorem sg_tp {ts : List Expr} {k : Nat} {gs : List (D → M Unit)} {A : List Nat} {n : Nat} (h : Sgs Γ ts gs A) (hl : gs.length = n := by rfl) (hn : ∀ env : PySem.Env, (assignEach ts env).length = n := by intro _; rfl)
    (hst : ∀ env : PySem.Env, (assignEach ts env).findIdx? (·.1) = none := by intro _; rfl) : Sg Γ (.Tuple ts k pos) (gTp gs) A := ⟨fun X ok env d env' hm σ H T v hr Q q => by
  cases d with
  | tup ds =>
    have hlen : ds.length = gs.length := by
      have key : ∀ (gs : List (D → M Unit)) (ds : List D) (env : Env) (r : Unit × Env), gTs gs ds env = some r → ds.length = gs.length := by
        intro gs
        induction gs with
        | nil =>
          intro ds env r h
          cases ds with
          | nil => rfl
          | cons => cases h
        | cons g gs ih =>
          intro ds env r h
          cases ds with
          | nil => cases h
          | cons d ds =>
            obtain ⟨_, s1, _, h2⟩ := mbind_some (show mbind (g d) (fun _ => gTs gs ds) env = _ from h)
            rw [List.length_cons, List.length_cons, ih ds s1 r h2]
      exact key gs ds env _ hm
    obtain ⟨L, hE, hS⟩ := hr
    obtain ⟨a, vs, e1, h1, h2, h3⟩ := hS.read_tup
    refine ⟨gTup X.K n (WGs X ts), pg_tup ok.calm (pgs_best X ts) (hn X.env) (hst X.env), a, vs, e1, by rw [ok.hK]; exact h1, by rw [← h2, hlen, hl], ?_⟩
    refine h.run X ok env ds env' hm σ H T vs h2 ⟨L, hE, ?_⟩ Q q
    rw [List.append_assoc]
    exact h3.sub (List.Sublist.append_left (List.sublist_cons_self _ _) _)
  | _ => cases hm⟩
end

/-! ### statements -/
def Post (K : PySem.W.Frag) (D : Ends) (A : List Nat) (σ : L2.St) (T : List It) (env' : Env) : Fl → Prop
  | .nx => ∀ σ' H', RS K H' env' σ' T → Kp A σ σ' → D.nx σ' H'
  | .bk => ∀ σ' H', RS K H' env' σ' T → Kp A σ σ' → D.bk σ' H'
  | .ct => ∀ σ' H', RS K H' env' σ' T → Kp A σ σ' → D.ct σ' H'
  | .rt o => ∀ v σ' H', RS K H' env' σ' (.rep o v :: T) → Kp A σ σ' → D.rt v H'
structure Ss (Γ : Gm) (st : Stmt) (m : M Fl) (A : List Nat) : Prop where
  run : ∀ X, Γ.Ok X → ∀ env fl env', m env = some (fl, env') → ∀ σ H T, RS Γ.cfg.K H env σ T → ∀ D : Ends, Post Γ.cfg.K D A σ T env' fl → WSt X st D σ H
structure Sb (Γ : Gm) (sts : List Stmt) (m : M Fl) (A : List Nat) : Prop where
  run : ∀ X, Γ.Ok X → ∀ env fl env', m env = some (fl, env') → ∀ σ H T, RS Γ.cfg.K H env σ T → ∀ D : Ends, Post Γ.cfg.K D A σ T env' fl → WSs X sts D σ H
section
variable {Γ : Gm} {e : Expr} {p pos pos' : Pos} {x : Str} {st : Stmt} {rest : List Stmt} {m n : M Fl} {A B : List Nat}
theorem sb_nil : Sb Γ [] sPass [] := ⟨fun X ok env fl env' hm σ H T hr D q => by
  have e1 := Option.some.inj (show some (Fl.nx, env) = some (fl, env') from hm)
  injection e1 with e1 e2
  subst e1 e2
  exact ⟨tNext, pss_nil, q σ H hr (Kp.refl _ _)⟩⟩
theorem sb_one (h : Ss Γ st m A) : Sb Γ [st] m A := ⟨fun X ok env fl env' hm σ H T hr D q => ⟨_, pss_one (ps_best X st), h.run X ok env fl env' hm σ H T hr D q⟩⟩
theorem sb_cons (h : Ss Γ st m A) (hs : Sb Γ rest n B) : Sb Γ (st :: rest) (sSeq m n) (A ++ B) := ⟨fun X ok env fl env' hm σ H T hr D q => by
  obtain ⟨f, s1, h1, h2⟩ := mbind_some hm
  refine ⟨_, pss_cons (ps_best X st) (pss_best X rest), ?_⟩
  refine h.run X ok env f s1 h1 σ H T hr { D with nx := WSs X rest D } ?_
  cases f with
  | nx =>
    intro σ1 H1 r1 k1
    refine hs.run X ok s1 fl env' h2 σ1 H1 T r1 D ?_
    cases fl with
    | nx => exact fun σ2 H2 r2 k2 => q σ2 H2 r2 (k1.trans k2)
    | bk => exact fun σ2 H2 r2 k2 => q σ2 H2 r2 (k1.trans k2)
    | ct => exact fun σ2 H2 r2 k2 => q σ2 H2 r2 (k1.trans k2)
    | rt o => exact fun v σ2 H2 r2 k2 => q v σ2 H2 r2 (k1.trans k2)
  | bk =>
    have e1 := Option.some.inj (show some (Fl.bk, s1) = some (fl, env') from h2)
    injection e1 with e1 e2
    subst e1 e2
    exact fun σ1 H1 r1 k1 => q σ1 H1 r1 (k1.wide fun i hi => List.mem_append_left _ hi)
  | ct =>
    have e1 := Option.some.inj (show some (Fl.ct, s1) = some (fl, env') from h2)
    injection e1 with e1 e2
    subst e1 e2
    exact fun σ1 H1 r1 k1 => q σ1 H1 r1 (k1.wide fun i hi => List.mem_append_left _ hi)
  | rt o =>
    have e1 := Option.some.inj (show some (Fl.rt o, s1) = some (fl, env') from h2)
    injection e1 with e1 e2
    subst e1 e2
    exact fun v σ1 H1 r1 k1 => q v σ1 H1 r1 (k1.wide fun i hi => List.mem_append_left _ hi)⟩
theorem ss_pass : Ss Γ (.Pass pos) sPass [] := ⟨fun X ok env fl env' hm σ H T hr D q => by
  have e1 := Option.some.inj (show some (Fl.nx, env) = some (fl, env') from hm)
  injection e1 with e1 e2
  subst e1 e2
  exact ⟨tNext, ps_pass, q σ H hr (Kp.refl _ _)⟩⟩
theorem ss_break : Ss Γ (.Break pos) sBreak [] := ⟨fun X ok env fl env' hm σ H T hr D q => by
  have e1 := Option.some.inj (show some (Fl.bk, env) = some (fl, env') from hm)
  injection e1 with e1 e2
  subst e1 e2
  exact ⟨tBreak, ps_break, q σ H hr (Kp.refl _ _)⟩⟩
theorem ss_cont : Ss Γ (.Continue pos) sCont [] := ⟨fun X ok env fl env' hm σ H T hr D q => by
  have e1 := Option.some.inj (show some (Fl.ct, env) = some (fl, env') from hm)
  injection e1 with e1 e2
  subst e1 e2
  exact ⟨tCont, ps_continue, q σ H hr (Kp.refl _ _)⟩⟩
theorem ss_doc {y j} : Ss Γ (.Expr (.Constant (.str y) j pos) pos') sPass [] := ⟨fun X ok env fl env' hm σ H T hr D q => by
  have e1 := Option.some.inj (show some (Fl.nx, env) = some (fl, env') from hm)
  injection e1 with e1 e2
  subst e1 e2
  exact ⟨tNext, ps_doc, q σ H hr (Kp.refl _ _)⟩⟩
theorem ss_expr {me : M O} (h : Sd Γ e me) (hs : ∀ env : PySem.Env, swapsWith e none pos.line env = pure false := by intro _; rfl) : Ss Γ (.Expr e pos) (sExpr me) [] := ⟨fun X ok env fl env' hm σ H T hr D q => by
  obtain ⟨o, s1, h1, h2⟩ := mbind_some hm
  have e1 := Option.some.inj (show some (Fl.nx, s1) = some (fl, env') from h2)
  injection e1 with e1 e2
  subst e1 e2
  exact ⟨_, ps_expr (pe_best X e) (hs X.env), h.run X ok env o s1 h1 σ H T hr _ fun v H' r => q σ H' r.drop (Kp.refl _ _)⟩⟩
theorem ss_ret {me : M O} (h : Sd Γ e me) : Ss Γ (.Return (some e) pos) (sRet me) [] := ⟨fun X ok env fl env' hm σ H T hr D q => by
  obtain ⟨o, s1, h1, h2⟩ := mbind_some hm
  have e1 := Option.some.inj (show some (Fl.rt o, s1) = some (fl, env') from h2)
  injection e1 with e1 e2
  subst e1 e2
  exact ⟨_, ps_ret (pe_best X e), h.run X ok env o s1 h1 σ H T hr _ fun v H' r => q v σ H' r (Kp.refl _ _)⟩⟩
theorem ss_retN : Ss Γ (.Return none pos) sRetN [] := ⟨fun X ok env fl env' hm σ H T hr D q => by
  have e1 := Option.some.inj (show some (Fl.rt (.d .non), env) = some (fl, env') from hm)
  injection e1 with e1 e2
  subst e1 e2
  exact ⟨tRetN, ps_retN, q .non σ H (hr.lift fun L h => h.flat rfl) (Kp.refl _ _)⟩⟩
theorem ss_if {c : Expr} {a b : List Stmt} {t : M Bool} (h : SdT Γ c t) (ha : Sb Γ a m A) (hb : Sb Γ b n B) : Ss Γ (.If c a b pos) (sIf t m n) (A ++ B) := ⟨fun X ok env fl env' hm σ H T hr D q => by
  obtain ⟨k, s1, h1, h2⟩ := mbind_some hm
  refine ⟨_, ps_if (pt_best X c) (pss_best X a) (pss_best X b), h.run X ok env k s1 h1 σ H T hr _ fun H' r => ?_⟩
  cases k with
  | true =>
    rw [if_pos rfl] at h2 ⊢
    refine ha.run X ok s1 fl env' h2 σ H' T r D ?_
    cases fl with
    | nx => exact fun σ2 H2 r2 k2 => q σ2 H2 r2 (k2.wide fun i hi => List.mem_append_left _ hi)
    | bk => exact fun σ2 H2 r2 k2 => q σ2 H2 r2 (k2.wide fun i hi => List.mem_append_left _ hi)
    | ct => exact fun σ2 H2 r2 k2 => q σ2 H2 r2 (k2.wide fun i hi => List.mem_append_left _ hi)
    | rt o => exact fun v σ2 H2 r2 k2 => q v σ2 H2 r2 (k2.wide fun i hi => List.mem_append_left _ hi)
  | false =>
    rw [if_neg Bool.false_ne_true] at h2 ⊢
    refine hb.run X ok s1 fl env' h2 σ H' T r D ?_
    cases fl with
    | nx => exact fun σ2 H2 r2 k2 => q σ2 H2 r2 (k2.wide fun i hi => List.mem_append_right _ hi)
    | bk => exact fun σ2 H2 r2 k2 => q σ2 H2 r2 (k2.wide fun i hi => List.mem_append_right _ hi)
    | ct => exact fun σ2 H2 r2 k2 => q σ2 H2 r2 (k2.wide fun i hi => List.mem_append_right _ hi)
    | rt o => exact fun v σ2 H2 r2 k2 => q v σ2 H2 r2 (k2.wide fun i hi => List.mem_append_right _ hi)⟩
/-- x = e, as it is -/
theorem ss_setO {me : M O} (i : Nat) (h : Sd Γ e me) (hN : Γ.N[i]? = some x := by rfl) (hst : Γ.sto x = true := by kernel_rfl) (nd : Γ.N.Nodup := by assumption)
    (hs : ∀ env : PySem.Env, env.scope.names = Γ.sc → swapsWith e (some (.Name x p)) pos.line env = pure false := by intro _ _; rfl) : Ss Γ (.Assign [.Name x p] e pos) (sSetO i me) [i] := ⟨fun X ok env fl env' hm σ H T hr D q => by
  obtain ⟨o, s1, h1, h2⟩ := mbind_some hm
  obtain ⟨_, s2, h3, h4⟩ := mbind_some h2
  have e1 := Option.some.inj (show some (Fl.nx, s2) = some (fl, env') from h4)
  injection e1 with e1 e2
  subst e1 e2
  obtain ⟨g1, g2⟩ := mset_some h3
  have g2 : s2 = s1.set i (some o) := g2
  subst g2
  obtain ⟨l1, l2⟩ := ok.sto hst
  exact ⟨_, ps_set (by rw [ok.hN]; exact nd) (by rw [ok.hN]; exact hN) l1 (pe_best X e) (hs X.env ok.hsc) l2, h.run X ok env o s1 h1 σ H T hr _ fun v H' r => q _ H' (r.put g1) Kp.set⟩⟩
theorem ss_set {me : M O} (i : Nat) (h : Sd Γ e me) (hN : Γ.N[i]? = some x := by rfl) (hst : Γ.sto x = true := by kernel_rfl) (nd : Γ.N.Nodup := by assumption)
    (hs : ∀ env : PySem.Env, env.scope.names = Γ.sc → swapsWith e (some (.Name x p)) pos.line env = pure false := by intro _ _; rfl) : Ss Γ (.Assign [.Name x p] e pos) (sSet i me) [i] := ⟨fun X ok env fl env' hm σ H T hr D q => by
  obtain ⟨o, s1, h1, h2⟩ := mbind_some hm
  obtain ⟨_, s2, h3, h4⟩ := mbind_some h2
  have e1 := Option.some.inj (show some (Fl.nx, s2) = some (fl, env') from h4)
  injection e1 with e1 e2
  subst e1 e2
  obtain ⟨g1, g2⟩ := mset_some h3
  have g2 : s2 = s1.set i (some (.d o.toD)) := g2
  subst g2
  obtain ⟨l1, l2⟩ := ok.sto hst
  exact ⟨_, ps_set (by rw [ok.hN]; exact nd) (by rw [ok.hN]; exact hN) l1 (pe_best X e) (hs X.env ok.hsc) l2, h.run X ok env o s1 h1 σ H T hr _ fun v H' r => q _ H' (r.freeze.put g1) Kp.set⟩⟩
/-- target = e, plain data -/
theorem ss_tgt {tg : Expr} {me : M O} {g : D → M Unit} (h : Sd Γ e me) (hg : Sg Γ tg g A) (hs : ∀ env : PySem.Env, env.scope.names = Γ.sc → swapsWithSole [tg] e pos.line env = pure false := by intro _ _; rfl) (hw : ∀ env : PySem.Env, env.scope.names = Γ.sc → swappedStores [tg] e env = pure none := by intro _ _; rfl)
    (ha : ∀ env : PySem.Env, (assignEach [tg] env).map (·.2) = [assign tg env] := by intro _; rfl) : Ss Γ (.Assign [tg] e pos) (sTgt g me) A := ⟨fun X ok env fl env' hm σ H T hr D q => by
  obtain ⟨o, s1, h1, h2⟩ := mbind_some hm
  obtain ⟨_, s2, h3, h4⟩ := mbind_some h2
  have e1 := Option.some.inj (show some (Fl.nx, s2) = some (fl, env') from h4)
  injection e1 with e1 e2
  subst e1 e2
  exact ⟨_, ps_asg (pe_best X e) (pg_best X tg) (hs X.env ok.hsc) (hw X.env ok.hsc) (ha X.env), h.run X ok env o s1 h1 σ H T hr _ fun v H' r => hg.run X ok s1 o.toD s2 h3 σ H' T v r.freeze _ fun σ' H'' r' k => q σ' H'' r' k⟩⟩
end

/-! ### what is walked -/
/-- while TI is held, J gives ds -/
structure WalkD (K : PySem.W.Frag) (J : L2.It) (ds : List D) (TI : List It) : Prop where
  go : ∀ i H L, i < ds.length → St K H (TI ++ L) → J.go i H
  stop : ∀ H L, St K H (TI ++ L) → J.stop ds.length H
  yld : ∀ i H L x H' (h : i < ds.length), St K H (TI ++ L) → J.yld i H x H' → St K H' (.rep (.d ds[i]) x :: (TI ++ L))
structure Si (Γ : Gm) (tg iter : Expr) (m : M (List D)) : Prop where
  run : ∀ X, Γ.Ok X → ∀ env ds env', m env = some (ds, env') → ∀ σ H T, RS Γ.cfg.K H env σ T → ∀ R : L2.It → Hp → Prop,
    (∀ J H1 TI, WalkD Γ.cfg.K J ds TI → RS Γ.cfg.K H1 env' σ (TI ++ T) → R J H1) → WIt X tg iter σ H R
/-- a list or a tuple -/
def listOfD : D → Option (List D)
  | .lst l => some l
  | .tup l => some l
  | _ => none
def iL (m : M O) : M (List D) := fun s => match m s with
  | some (o, s') => match o.toD with
    | .lst l => some (l, s')
    | _ => none
  | none => none
def iT (m : M O) : M (List D) := fun s => match m s with
  | some (o, s') => match o.toD with
    | .tup l => some (l, s')
    | _ => none
  | none => none
section
variable {Γ : Gm} {tg e : Expr} {m : M O} {p pos : Pos}
theorem reps_pick {K : PySem.W.Frag} {H : Hp} {ds : List D} {vs : List V} {L : List It} (hl : ds.length = vs.length) (h : St K H (reps (leaf ds) vs ++ L)) {i : Nat} {x : V} (hi : i < ds.length) (hx : vs[i]? = some x) : St K H (.rep (.d ds[i]) x :: L) := by
  obtain ⟨v, h1, h2⟩ := reps_at (ds := ds) (vs := vs) (i := i) hl (List.getElem?_eq_getElem hi)
  rw [hx] at h1
  have e := Option.some.inj h1
  subst e
  exact h.pick h2
theorem si_list (h : Sd Γ e m) : Si Γ tg e (iL m) := ⟨fun X ok env ds env' hm σ H T hr R q => by
  unfold iL at hm
  cases q1 : m env with
  | none => rw [q1] at hm; cases hm
  | some r =>
    obtain ⟨o, s1⟩ := r
    rw [q1] at hm
    cases q2 : o.toD with
    | lst l =>
      simp only [q2] at hm
      have e1 := Option.some.inj hm
      injection e1 with e1 e2
      subst e1 e2
      refine ⟨_, pi_list (pe_best X e), h.run X ok env o s1 q1 σ H T hr _ fun v H1 r1 => ?_⟩
      have r1 := r1.freeze
      rw [q2] at r1
      obtain ⟨a, vs, e1, h1⟩ : ∃ a vs, v = .ref a ∧ SqL Γ.cfg.K H1 a vs := by
        obtain ⟨L, _, hS⟩ := r1
        obtain ⟨a, vs, e1, h1, _⟩ := hS.read_lst
        exact ⟨a, vs, e1, h1⟩
      subst e1
      refine ⟨a, rfl, ⟨vs, by rw [ok.hK]; exact h1⟩, ?_⟩
      refine q _ H1 [.rep (.d (.lst l)) (.ref a)] ⟨fun i H2 L hi hS => ?_, fun H2 L hS => ?_, fun i H2 L x H' hi hS hy => ?_⟩ r1
      · obtain ⟨a', ws, e1, g1, g2, g3⟩ := St.read_lst (L := L) hS
        cases e1
        rw [ok.hK]
        exact ⟨ws, ws[i]'(by omega), g1, by simp [show i < ws.length by omega]⟩
      · obtain ⟨a', ws, e1, g1, g2, g3⟩ := St.read_lst (L := L) hS
        cases e1
        rw [ok.hK]
        exact ⟨ws, g1, by omega⟩
      · obtain ⟨a', ws, e1, g1, g2, g3⟩ := St.read_lst (L := L) hS
        cases e1
        rw [ok.hK] at hy
        obtain ⟨y1, y2⟩ := hy
        subst y1
        exact reps_pick g2 g3 hi (y2 ws g1)
    | non => simp only [q2] at hm; cases hm
    | bl _ => simp only [q2] at hm; cases hm
    | int _ => simp only [q2] at hm; cases hm
    | str _ => simp only [q2] at hm; cases hm
    | tup _ => simp only [q2] at hm; cases hm
    | dct _ => simp only [q2] at hm; cases hm
    | obj _ _ _ => simp only [q2] at hm; cases hm⟩
theorem si_tup (h : Sd Γ e m) : Si Γ tg e (iT m) := ⟨fun X ok env ds env' hm σ H T hr R q => by
  unfold iT at hm
  cases q1 : m env with
  | none => rw [q1] at hm; cases hm
  | some r =>
    obtain ⟨o, s1⟩ := r
    rw [q1] at hm
    cases q2 : o.toD with
    | tup l =>
      simp only [q2] at hm
      have e1 := Option.some.inj hm
      injection e1 with e1 e2
      subst e1 e2
      refine ⟨_, pi_tup (pe_best X e), h.run X ok env o s1 q1 σ H T hr _ fun v H1 r1 => ?_⟩
      have r1 := r1.freeze
      rw [q2] at r1
      obtain ⟨a, vs, e1, h1⟩ : ∃ a vs, v = .ref a ∧ SqT Γ.cfg.K H1 a vs := by
        obtain ⟨L, _, hS⟩ := r1
        obtain ⟨a, vs, e1, h1, _⟩ := hS.read_tup
        exact ⟨a, vs, e1, h1⟩
      subst e1
      refine ⟨a, rfl, ⟨vs, by rw [ok.hK]; exact h1⟩, ?_⟩
      refine q _ H1 [.rep (.d (.tup l)) (.ref a)] ⟨fun i H2 L hi hS => ?_, fun H2 L hS => ?_, fun i H2 L x H' hi hS hy => ?_⟩ r1
      · obtain ⟨a', ws, e1, g1, g2, g3⟩ := St.read_tup (L := L) hS
        cases e1
        rw [ok.hK]
        exact ⟨ws, ws[i]'(by omega), g1, by simp [show i < ws.length by omega]⟩
      · obtain ⟨a', ws, e1, g1, g2, g3⟩ := St.read_tup (L := L) hS
        cases e1
        rw [ok.hK]
        exact ⟨ws, g1, by omega⟩
      · obtain ⟨a', ws, e1, g1, g2, g3⟩ := St.read_tup (L := L) hS
        cases e1
        rw [ok.hK] at hy
        obtain ⟨y1, y2⟩ := hy
        subst y1
        exact reps_pick g2 g3 hi (y2 ws g1)
    | non => simp only [q2] at hm; cases hm
    | bl _ => simp only [q2] at hm; cases hm
    | int _ => simp only [q2] at hm; cases hm
    | str _ => simp only [q2] at hm; cases hm
    | lst _ => simp only [q2] at hm; cases hm
    | dct _ => simp only [q2] at hm; cases hm
    | obj _ _ _ => simp only [q2] at hm; cases hm⟩
/-- ranges -/
def upto (lo : Int) (n : Nat) : List D := (List.range n).map fun i => .int (lo + (i : Nat))
def iR1 (m : M O) : M (List D) := fun s => match m s with
  | some (.d (.int j), s') => if -(2 ^ 62) ≤ j ∧ j < 2 ^ 62 then some (upto 0 j.toNat, s') else none
  | _ => none
def iR2 (m n : M O) : M (List D) := fun s => match mArgs [m, n] s with
  | some ([.d (.int i), .d (.int j)], s') => if (-(2 ^ 62) ≤ i ∧ i < 2 ^ 62) ∧ (-(2 ^ 62) ≤ j ∧ j < 2 ^ 62) then some (upto i (j - i).toNat, s') else none
  | _ => none
theorem upto_len (lo : Int) (n : Nat) : (upto lo n).length = n := by simp [upto]
theorem walk_rg {K : PySem.W.Frag} {lo : Int} {n : Nat} : WalkD K (Itr lo n) (upto lo n) [] :=
  ⟨fun i H L hi _ => by rw [upto_len] at hi; exact hi, fun H L _ => by rw [upto_len]; exact Nat.le_refl _, fun i H L x H' hi hS hy => by
    obtain ⟨e1, e2⟩ := hy
    subst e1 e2
    have e : (upto lo n)[i] = .int (lo + (i : Nat)) := by simp [upto]
    rw [e]
    exact hS.flat rfl⟩
theorem si_r1 (h : Sd Γ e m) (hg : Γ.glo "range" = true) (hmg : Γ.cfg.mg "range" = none) (hs : ∀ env : PySem.Env, starEach [e] env = [(false, eval e env)] := by intro _; rfl) : Si Γ tg (.Call (.Name "range" p) [e] [] pos) (iR1 m) := ⟨fun X ok env ds env' hm σ H T hr R q => by
  unfold iR1 at hm
  split at hm
  · rename_i j s' q1
    by_cases hj : -(2 ^ 62) ≤ j ∧ j < 2 ^ 62
    · rw [if_pos hj] at hm
      have e1 := Option.some.inj hm
      injection e1 with e1 e2
      subst e1 e2
      refine ⟨_, pi_range1 (ok.glo hg) (by rw [ok.hmg]; exact hmg) (pa_of (ns_cons ns_nil fun env => hs env)) (hs X.env), ?_⟩
      refine h.run X ok env _ s' q1 σ H T hr _ fun v H1 r1 => ?_
      have ev : v = .int j := by
        obtain ⟨L, _, hS⟩ := r1
        exact hS.intv
      subst ev
      exact ⟨j, rfl, hj.1, hj.2, q _ H1 [] walk_rg r1.drop⟩
    · rw [if_neg hj] at hm; cases hm
  · cases hm⟩
theorem si_r2 {e2 : Expr} {n : M O} (h : Sd Γ e m) (h' : Sd Γ e2 n) (hg : Γ.glo "range" = true) (hmg : Γ.cfg.mg "range" = none) (hs : ∀ env : PySem.Env, starEach [e, e2] env = [(false, eval e env), (false, eval e2 env)] := by intro _; rfl) (hs2 : ∀ env : PySem.Env, starEach [e2] env = [(false, eval e2 env)] := by intro _; rfl) :
    Si Γ tg (.Call (.Name "range" p) [e, e2] [] pos) (iR2 m n) := ⟨fun X ok env ds env' hm σ H T hr R q => by
  unfold iR2 at hm
  split at hm
  · rename_i i j s' q1
    by_cases hj : (-(2 ^ 62) ≤ i ∧ i < 2 ^ 62) ∧ (-(2 ^ 62) ≤ j ∧ j < 2 ^ 62)
    · rw [if_pos hj] at hm
      have e1 := Option.some.inj hm
      injection e1 with e1 e2
      subst e1 e2
      refine ⟨_, pi_range2 (ok.glo hg) (by rw [ok.hmg]; exact hmg) (pa_of (ns_cons (ns_cons ns_nil fun env => hs2 env) fun env => by rw [hs, hs2])) (hs X.env) (hs2 X.env), ?_⟩
      refine (sar_cons h (sar_cons h' sar_nil)).run X ok env _ s' q1 σ H T hr (fun vs H1 => ∃ i j : Int, vs = [.int i, .int j] ∧ (-(2 ^ 62) ≤ i ∧ i < 2 ^ 62 ∧ -(2 ^ 62) ≤ j ∧ j < 2 ^ 62) ∧ R (Itr i (j - i).toNat) H1) fun vs H1 hl r1 => ?_
      match vs, hl with
      | [x, y], _ =>
        have ev : x = .int i ∧ y = .int j := by
          obtain ⟨L, _, hS⟩ := r1
          exact ⟨St.intv hS, St.intv (St.drop hS)⟩
        obtain ⟨e1, e2⟩ := ev
        subst e1 e2
        exact ⟨i, j, rfl, ⟨hj.1.1, hj.1.2, hj.2.1, hj.2.2⟩, q _ H1 [] walk_rg r1.drop.drop⟩
    · rw [if_neg hj] at hm; cases hm
  · cases hm⟩
end
end BM

set_option Elab.async false
set_option linter.all false
set_option maxRecDepth 100000
set_option maxHeartbeats 4000000
/-! BM, part 7: loops and comprehensions. -/
namespace BM
open PySem PySem.Spec PyProof.Rows L2
section
variable {Γ : Gm} {tg iter e c : Expr} {p pos : Pos} {body : List Stmt} {src : M (List D)} {g : D → M Unit} {m : M Fl} {A B : List Nat}
theorem forL_cons {d : D} {ds : List D} {env : Env} {r : Fl × Env} (h : forL g m (d :: ds) env = some r) : ∃ s1 f s2, g d env = some ((), s1) ∧ m s1 = some (f, s2) ∧
    (match f with | .nx => forL g m ds s2 = some r | .ct => forL g m ds s2 = some r | .bk => r = (.nx, s2) | .rt o => r = (.rt o, s2)) := by
  rw [forL] at h
  obtain ⟨_, s1, h1, h2⟩ := mbind_some h
  obtain ⟨f, s2, h3, h4⟩ := mbind_some h2
  refine ⟨s1, f, s2, h1, h3, ?_⟩
  cases f with
  | nx => exact h4
  | ct => exact h4
  | bk => exact (Option.some.inj (show some (Fl.nx, s2) = some r from h4)).symm
  | rt o => exact (Option.some.inj (show some (Fl.rt o, s2) = some r from h4)).symm
theorem ss_for (hi : Si Γ tg iter src) (hg : Sg Γ tg g A) (hb : Sb Γ body m B) (hs : ∀ (env : PySem.Env) x, foldedSetIterable iter env x = pure x := by intro _ _; rfl) : Ss Γ (.For tg iter body [] pos) (sFor src g m) (A ++ B) := ⟨fun X ok env fl env' hm σ H T hr D q => by
  obtain ⟨ds, s1, h1, h2⟩ := mbind_some hm
  refine ⟨_, ps_for (by rw [ok.xe]; exact PassesOwn.never) ok.calm (pi_best X tg iter) (pg_best X tg) (pss_best X body) (hs X.env), ?_⟩
  refine hi.run X ok env ds s1 h1 σ H T hr _ fun J H1 TI wk r1 => ?_
  refine ⟨fun i n σ' H' => n = ds.length - i ∧ i ≤ ds.length ∧ ∃ s, RS Γ.cfg.K H' s σ' (TI ++ T) ∧ Kp (A ++ B) σ σ' ∧ forL g m (ds.drop i) s = some (fl, env'), ⟨ds.length, rfl, Nat.zero_le _, s1, r1, Kp.refl _ _, h2⟩, ?_⟩
  rintro i n σ2 H2 ⟨rfl, hle, s, r2, k2, h3⟩
  by_cases hlt : i < ds.length
  · right
    obtain ⟨L, hE, hS⟩ := id r2
    refine ⟨wk.go i H2 (T ++ L) hlt (by rw [← List.append_assoc]; exact hS), fun σ' H' => ∃ s, RS Γ.cfg.K H' s σ' (TI ++ T) ∧ Kp (A ++ B) σ σ' ∧ forL g m (ds.drop (i + 1)) s = some (fl, env'),
      fun σ' H' hN => ⟨ds.length - (i + 1), by omega, rfl, hlt, hN⟩, fun x H' hy => ?_⟩
    have hS2 := wk.yld i H2 (T ++ L) x H' hlt (by rw [← List.append_assoc]; exact hS) hy
    rw [List.drop_eq_getElem_cons hlt] at h3
    obtain ⟨s3, f, s4, e1, e2, e3⟩ := forL_cons h3
    refine hg.run X ok s ds[i] s3 e1 σ2 H' (TI ++ T) x ⟨L, hE, by rw [← List.append_assoc] at hS2; exact hS2⟩ _ fun σ3 H3 r3 k3 => ?_
    refine hb.run X ok s3 f s4 e2 σ3 H3 (TI ++ T) r3 _ ?_
    have kk : ∀ {σ4}, Kp B σ3 σ4 → Kp (A ++ B) σ σ4 := fun k4 => k2.idem (k3.trans k4)
    cases f with
    | nx => exact fun σ4 H4 r4 k4 => ⟨s4, r4, kk k4, e3⟩
    | ct => exact fun σ4 H4 r4 k4 => ⟨s4, r4, kk k4, e3⟩
    | bk =>
      injection e3 with e4 e5
      subst e4 e5
      exact fun σ4 H4 r4 k4 => q σ4 H4 r4.dropN (kk k4)
    | rt o =>
      injection e3 with e4 e5
      subst e4 e5
      exact fun v σ4 H4 r4 k4 => q v σ4 H4 (r4.lift fun L h => h.sub (.cons₂ _ (by show (T ++ L).Sublist (TI ++ T ++ L); rw [List.append_assoc]; exact List.sublist_append_right _ _))) (kk k4)
  · left
    have e : i = ds.length := by omega
    subst e
    rw [List.drop_length] at h3
    have e1 := Option.some.inj (show some (Fl.nx, s) = some (fl, env') from h3)
    injection e1 with e1 e2
    subst e1 e2
    obtain ⟨L, hE, hS⟩ := id r2
    exact ⟨wk.stop H2 (T ++ L) (by rw [← List.append_assoc]; exact hS), q σ2 H2 r2.dropN k2⟩⟩
theorem ss_while {t : M Bool} (fuel : Nat) (hc : SdT Γ c t) (hb : Sb Γ body m B) : Ss Γ (.While c body [] pos) (whileL t m fuel) B := ⟨fun X ok env fl env' hm σ H T hr D q => by
  refine ⟨_, ps_while (by rw [ok.xe]; exact PassesOwn.never) (pt_best X c) (pss_best X body), ?_⟩
  refine ⟨fun n σ' H' => ∃ s, RS Γ.cfg.K H' s σ' T ∧ Kp B σ σ' ∧ whileL t m n s = some (fl, env'), ⟨fuel, env, hr, Kp.refl _ _, hm⟩, ?_⟩
  rintro n σ2 H2 ⟨s, r2, k2, h3⟩
  cases n with
  | zero => cases h3
  | succ n =>
    rw [whileL] at h3
    obtain ⟨k, s1, h4, h5⟩ := mbind_some h3
    refine hc.run X ok s k s1 h4 σ2 H2 T r2 _ fun H3 r3 => ?_
    cases k with
    | true =>
      rw [if_pos rfl] at h5 ⊢
      obtain ⟨f, s2, h6, h7⟩ := mbind_some h5
      refine ⟨fun σ' H' => ∃ s, RS Γ.cfg.K H' s σ' T ∧ Kp B σ σ' ∧ whileL t m n s = some (fl, env'), fun σ' H' hN => ⟨n, Nat.lt_succ_self _, hN⟩, ?_⟩
      refine hb.run X ok s1 f s2 h6 σ2 H3 T r3 _ ?_
      cases f with
      | nx => exact fun σ4 H4 r4 k4 => ⟨s2, r4, k2.idem k4, h7⟩
      | ct => exact fun σ4 H4 r4 k4 => ⟨s2, r4, k2.idem k4, h7⟩
      | bk =>
        have e1 := Option.some.inj (show some (Fl.nx, s2) = some (fl, env') from h7)
        injection e1 with e1 e2
        subst e1 e2
        exact fun σ4 H4 r4 k4 => q σ4 H4 r4 (k2.idem k4)
      | rt o =>
        have e1 := Option.some.inj (show some (Fl.rt o, s2) = some (fl, env') from h7)
        injection e1 with e1 e2
        subst e1 e2
        exact fun v σ4 H4 r4 k4 => q v σ4 H4 r4 (k2.idem k4)
    | false =>
      rw [if_neg Bool.false_ne_true] at h5 ⊢
      have e1 := Option.some.inj (show some (Fl.nx, s1) = some (fl, env') from h5)
      injection e1 with e1 e2
      subst e1 e2
      exact q σ2 H3 r3 k2⟩
end

/-! ### wiping -/
section
variable {K : PySem.W.Frag} {H : Hp} {env : Env} {σ σ' : L2.St} {T : List It}
theorem RS.wipe : ∀ (l : List Nat), RS K H env σ T → RS K H (wipeE env l) (L2.wipe σ l) T
  | [], h => h
  | v :: vs, h => by
    rw [wipeE, L2.wipe]
    exact (RS.wipe vs h).wipe1
theorem wipeE_none : ∀ {l : List Nat} {i : Nat} {o : O}, i ∈ l → (wipeE env l)[i]? ≠ some (some o)
  | v :: vs, i, o, h, e => by
    rw [wipeE] at e
    by_cases hv : v = i
    · subst hv
      by_cases hl : v < (wipeE env vs).length
      · rw [List.getElem?_set_self hl] at e; cases e
      · rw [List.getElem?_eq_none (by simpa using hl)] at e; cases e
    · rw [List.getElem?_set_ne hv] at e
      rcases List.mem_cons.mp h with e1 | h
      · exact hv e1.symm
      · exact wipeE_none h e
theorem EnvR.other {L : List It} (h : EnvR env σ L) : ∀ {σ' : L2.St}, σ'.length = σ.length → (∀ (i : Nat) (o : O), env[i]? = some (some o) → σ'[i]? = σ[i]?) → EnvR env σ' L := by
  induction h with
  | nil =>
    intro σ' hl _
    cases σ' with
    | nil => exact .nil
    | cons => cases hl
  | no h ih =>
    intro σ' hl k
    cases σ' with
    | nil => cases hl
    | cons x σ' => exact .no (ih (by simpa using hl) fun i o e => by simpa using k (i + 1) o (by simpa using e))
  | @yes env σ L o v h ih =>
    intro σ' hl k
    cases σ' with
    | nil => cases hl
    | cons x σ' =>
      have e : some x = some (some v) := k 0 o rfl
      have e := Option.some.inj e
      subst e
      exact .yes (ih (by simpa using hl) fun i o e => by simpa using k (i + 1) o (by simpa using e))
theorem wipe_out : ∀ {l : List Nat} {i : Nat}, i ∉ l → (L2.wipe σ l)[i]? = σ[i]?
  | [], i, _ => rfl
  | v :: vs, i, h => by
    rw [L2.wipe, List.getElem?_set_ne (fun e => h (by rw [e]; exact List.mem_cons_self)), wipe_out fun z => h (List.mem_cons_of_mem _ z)]
theorem wipe_in : ∀ {l : List Nat} {i : Nat}, i ∈ l → i < σ.length → (L2.wipe σ l)[i]? = some none
  | v :: vs, i, h, hl => by
    rw [L2.wipe]
    by_cases hv : v = i
    · subst hv
      rw [List.getElem?_set_self (by rw [L2.wipe_length]; exact hl)]
    · rw [List.getElem?_set_ne hv]
      rcases List.mem_cons.mp h with e1 | h
      · exact absurd e1.symm hv
      · exact wipe_in h hl
theorem wipe_eq {own A : List Nat} (k : Kp A (L2.wipe σ own) σ') (h : ∀ i ∈ A, i ∈ own) : L2.wipe σ' own = L2.wipe σ own := by
  have hl : σ'.length = σ.length := k.1.trans (L2.wipe_length _ _)
  refine List.ext_getElem? fun i => ?_
  by_cases hi : i ∈ own
  · by_cases hn : i < σ.length
    · rw [wipe_in hi hn, wipe_in hi (by rw [hl]; exact hn)]
    · rw [List.getElem?_eq_none (by rw [L2.wipe_length]; omega), List.getElem?_eq_none (by rw [L2.wipe_length]; omega)]
  · rw [wipe_out hi, wipe_out hi, k.2 i fun z => hi (h i z), wipe_out hi]
/-- back from a block: the block's own slots hold nothing -/
theorem RS.unwipe {own : List Nat} (h : RS K H env (L2.wipe σ own) T) (hn : ∀ i ∈ own, ∀ o, env[i]? ≠ some (some o)) : RS K H env σ T := by
  obtain ⟨L, hE, hS⟩ := h
  refine ⟨L, hE.other (by rw [L2.wipe_length]) fun i o e => ?_, hS⟩
  rw [wipe_out fun z => hn i z o e]
end

/-! ### comprehensions -/
section
variable {Γ : Gm} {tg iter elt : Expr} {ifs : List Expr} {scope : Scope} {pos : Pos} {src : M (List D)} {g : D → M Unit} {t : M Bool} {me : M O} {A : List Nat} {own : List (Str × Nat)}
structure Sts (Γ : Gm) (ifs : List Expr) (m : M Bool) : Prop where
  run : ∀ X, Γ.Ok X → ∀ env b env', m env = some (b, env') → ∀ σ H T, RS Γ.cfg.K H env σ T → ∀ Q : Bool → Hp → Prop, (∀ H', RS Γ.cfg.K H' env' σ T → Q b H') → ∃ t, PTs X ifs t ∧ t σ H Q
theorem sts_nil : Sts Γ [] tYes := ⟨fun X ok env b env' hm σ H T hr Q q => by
  have e1 := Option.some.inj (show some (true, env) = some (b, env') from hm)
  injection e1 with e1 e2
  subst e1 e2
  exact ⟨L2.tYes, pts_nil, q H hr⟩⟩
theorem sts_one {c : Expr} (h : SdT Γ c t) : Sts Γ [c] t := ⟨fun X ok env b env' hm σ H T hr Q q => ⟨_, pts_one (pt_best X c), h.run X ok env b env' hm σ H T hr Q q⟩⟩
def blkFact (Γ : Gm) (scope : Scope) (own : List (Str × Nat)) : Bool := blkC Γ.N { kind := .function, names := Γ.sc, isGenerator := false, isCoroutine := false, more := [] } scope own
theorem blk_ok {X : Cx} (ok : Γ.Ok X) (h : blkFact Γ scope own = true) : BlkOk X.N X.env.scope scope own := by
  have b := blkOk_by h
  rw [ok.hN]
  exact ⟨b.kind, b.uniq, b.ix, fun y hy e => by rw [ok.hsc]; exact b.free y hy e, b.own⟩
theorem lcL_cons {ow : List Nat} {d : D} {ds : List D} {env : Env} {r : List O × Env} (h : lcL ow g t me (d :: ds) env = some r) : ∃ s1 k s2, g d env = some ((), s1) ∧ t s1 = some (k, s2) ∧
    ((k = true ∧ ∃ o s3 l s4, me s2 = some (o, s3) ∧ lcL ow g t me ds (wipeE s3 ow) = some (l, s4) ∧ r = (o :: l, s4)) ∨ (k = false ∧ lcL ow g t me ds (wipeE s2 ow) = some r)) := by
  rw [lcL] at h
  obtain ⟨_, s1, h1, h2⟩ := mbind_some h
  obtain ⟨k, s2, h3, h4⟩ := mbind_some h2
  refine ⟨s1, k, s2, h1, h3, ?_⟩
  cases k with
  | true =>
    rw [if_pos rfl] at h4
    obtain ⟨o, s3, h5, h6⟩ := mbind_some h4
    obtain ⟨_, s3', h7, h8⟩ := mbind_some h6
    have e1 := Option.some.inj (show some ((), wipeE s3 ow) = some ((), s3') from h7)
    injection e1 with _ e1
    subst e1
    obtain ⟨l, s4, h9, h10⟩ := mbind_some h8
    exact .inl ⟨rfl, o, s3, l, s4, h5, h9, (Option.some.inj (show some (o :: l, s4) = some r from h10)).symm⟩
  | false =>
    rw [if_neg Bool.false_ne_true] at h4
    obtain ⟨_, s3', h7, h8⟩ := mbind_some h4
    have e1 := Option.some.inj (show some ((), wipeE s2 ow) = some ((), s3') from h7)
    injection e1 with _ e1
    subst e1
    exact .inr ⟨rfl, h8⟩
theorem mLc_some {ow : List Nat} {env : Env} {r : O × Env} (h : mLc ow src g t me env = some r) : ∃ ds s1 l s2, src env = some (ds, s1) ∧ lcL ow g t me ds (wipeE s1 ow) = some (l, s2) ∧ l.length ≤ sizeLine ∧ r = (.lst l, s2) := by
  obtain ⟨ds, s1, h1, h2⟩ := mbind_some h
  obtain ⟨_, s1', h3, h4⟩ := mbind_some h2
  have e1 := Option.some.inj (show some ((), wipeE s1 ow) = some ((), s1') from h3)
  injection e1 with _ e1
  subst e1
  obtain ⟨l, s2, h5, h6⟩ := mbind_some h4
  by_cases hl : l.length ≤ sizeLine
  · rw [if_pos hl] at h6
    exact ⟨ds, s1, l, s2, h1, h5, hl, (Option.some.inj (show some (O.lst l, s2) = some r from h6)).symm⟩
  · rw [if_neg hl] at h6; cases h6
/-- the readings within the block, whatever block it is -/
def gAll (Γ : Gm) (tg : Expr) : TG := fun v σ H Q => ∀ X, Γ.Ok X → WG X tg v σ H Q
def tAll (Γ : Gm) (ifs : List Expr) : TT := fun σ H Q => ∀ X, Γ.Ok X → ∃ t, PTs X ifs t ∧ t σ H Q
def eAll (Γ : Gm) (e : Expr) : TE := fun σ H Q => ∀ X, Γ.Ok X → WE X e σ H Q
theorem pg_all {X : Cx} (ok : Γ.Ok X) : PG X tg (gAll Γ tg) := ⟨fun pins s σ H v u Q I r h => (pg_best X tg).run pins s σ H v u Q I r (h X ok)⟩
theorem pts_all {X : Cx} (ok : Γ.Ok X) : PTs X ifs (tAll Γ ifs) := ⟨fun pins s σ H Q I h => by
  obtain ⟨t, h1, h2⟩ := h X ok
  exact h1.run pins s σ H Q I h2⟩
theorem pe_all {X : Cx} (ok : Γ.Ok X) : PE X elt (eAll Γ elt) := ⟨fun pins s σ H Q I h => (pe_best X elt).run pins s σ H Q I (h X ok)⟩
theorem append_rs {K : PySem.W.Frag} {H : Hp} {env : Env} {σ : L2.St} {T : List It} {os : List O} {Dl : Addr} {o : O} {y : V} (h : RS K H env σ (.rep o y :: .rep (.lst os) (.ref Dl) :: T)) :
    ∃ acc, H Dl = some (.lst acc) ∧ acc.length = os.length ∧ RS K (upd H Dl (.lst (acc ++ [y]))) env σ (.rep (.lst (os ++ [o])) (.ref Dl) :: T) := by
  obtain ⟨L, hE, hS⟩ := h
  have hS1 : St K H (.rep (.lst os) (.ref Dl) :: (.rep o y :: (T ++ L))) := hS.perm (.swap _ _ _)
  obtain ⟨a, vs, e1, hl, h2⟩ := hS1.open_lst
  cases e1
  refine ⟨vs, h2.raw_at, hl.symm, L, hE, ?_⟩
  have h3 := h2.write (u' := .lst (vs ++ [y]))
  show St K _ (.rep (.lst (os ++ [o])) (.ref Dl) :: (T ++ L))
  refine St.close_lst (os := os ++ [o]) (L := T ++ L) (vs := vs ++ [y]) (by simp [hl]) ?_
  refine h3.perm (.cons _ ?_)
  have key : ∀ (os : List O) (vs : List V), os.length = vs.length → reps (os ++ [o]) (vs ++ [y]) = reps os vs ++ [.rep o y] := by
    intro os
    induction os with
    | nil =>
      intro vs h
      cases vs with
      | nil => rfl
      | cons => cases h
    | cons a os ih =>
      intro vs h
      cases vs with
      | nil => cases h
      | cons b vs =>
        show .rep a b :: reps (os ++ [o]) (vs ++ [y]) = .rep a b :: (reps os vs ++ [.rep o y])
        rw [ih vs (by simpa using h)]
  rw [key os vs hl, List.append_assoc]
  exact .refl _
/-- the reading of a comprehension -/
theorem lc_read (hi : Si Γ tg iter src) (hk : scope.kind = .function) (hg : Sg (Γ.blk scope) tg g A) (ht : Sts (Γ.blk scope) ifs t) (he : Sd (Γ.blk scope) elt me) (hA : ∀ i ∈ A, i ∈ own.map (·.2))
    {X : Cx} (ok : Γ.Ok X) {env : Env} {o : O} {env' : Env} (hm : mLc (own.map (·.2)) src g t me env = some (o, env')) {σ : L2.St} {H : Hp} {T : List It} (hr : RS Γ.cfg.K H env σ T) {Q : VK}
    (q : ∀ v H', RS Γ.cfg.K H' env' σ (.rep o v :: T) → Q v H') : tLc (WIt X tg iter) (gAll (Γ.blk scope) tg) (tAll (Γ.blk scope) ifs) (eAll (Γ.blk scope) elt) (own.map (·.2)) σ H Q := by
  obtain ⟨ds, s1, l, s2, h1, h2, hl, e1⟩ := mLc_some hm
  injection e1 with e1 e2
  subst e1 e2
  generalize hw : own.map (·.2) = ow at *
  refine hi.run X ok env ds s1 h1 σ H T hr _ fun J H1 TI wk r1 => ?_
  intro Dl hD
  refine ⟨fun i n H' => n = ds.length - i ∧ i ≤ ds.length ∧ ∃ s acc rest, RS Γ.cfg.K H' s (L2.wipe σ ow) (.rep (.lst acc) (.ref Dl) :: (TI ++ T)) ∧ (∀ i ∈ ow, ∀ o, s[i]? ≠ some (some o)) ∧ lcL ow g t me (ds.drop i) s = some (rest, env') ∧ acc ++ rest = l,
    ⟨ds.length, rfl, Nat.zero_le _, wipeE s1 ow, [], l, ?_, fun i hi o => wipeE_none hi, h2, rfl⟩, ?_⟩
  · refine RS.lift (fun L h => ?_) (r1.wipe ow)
    exact St.close_lst (os := []) (vs := []) rfl (St.alloc hD h)
  rintro i n H2 ⟨rfl, hle, s, acc, rest, r2, hn, h3, ha⟩
  by_cases hlt : i < ds.length
  · right
    obtain ⟨L, hE, hS⟩ := id r2
    have hS' : St Γ.cfg.K H2 (TI ++ (.rep (.lst acc) (.ref Dl) :: (T ++ L))) := by
      refine hS.perm ?_
      show (It.rep (.lst acc) (.ref Dl) :: (TI ++ T ++ L)).Perm _
      rw [List.append_assoc]
      exact List.perm_middle.symm
    refine ⟨wk.go i H2 _ hlt hS', fun H' => ∃ s acc rest, RS Γ.cfg.K H' s (L2.wipe σ ow) (.rep (.lst acc) (.ref Dl) :: (TI ++ T)) ∧ (∀ i ∈ ow, ∀ o, s[i]? ≠ some (some o)) ∧ lcL ow g t me (ds.drop (i + 1)) s = some (rest, env') ∧ acc ++ rest = l,
      fun H' hN => ⟨ds.length - (i + 1), by omega, rfl, hlt, hN⟩, fun x H' hy => ?_⟩
    have hS2 := wk.yld i H2 _ x H' hlt hS' hy
    have r3 : RS Γ.cfg.K H' s (L2.wipe σ ow) (.rep (.d ds[i]) x :: .rep (.lst acc) (.ref Dl) :: (TI ++ T)) := ⟨L, hE, hS2.perm (.cons _ (by
      show (TI ++ (It.rep (.lst acc) (.ref Dl) :: (T ++ L))).Perm (It.rep (.lst acc) (.ref Dl) :: (TI ++ T ++ L))
      rw [List.append_assoc]
      exact List.perm_middle))⟩
    rw [List.drop_eq_getElem_cons hlt] at h3
    obtain ⟨s3, k, s4, g1, g2, g3⟩ := lcL_cons h3
    -- what may be said of the turn in any block
    intro X' ok'
    refine hg.run X' ok' s ds[i] s3 g1 _ H' _ x r3 _ fun σ3 H3 r4 k3 => ⟨wipe_eq k3 hA, ?_⟩
    intro X2 ok2
    refine ht.run X2 ok2 s3 k s4 g2 σ3 H3 _ r4 _ fun H4 r5 => ?_
    rcases g3 with ⟨rfl, y, s5, l', s6, f1, f2, f3⟩ | ⟨rfl, f1⟩
    · injection f3 with f3 f4
      subst f3 f4
      rw [if_pos rfl]
      intro X3 ok3
      refine he.run X3 ok3 s4 y s5 f1 σ3 H4 _ r5 _ fun v H5 r6 => ?_
      obtain ⟨vs, q1, q2, q3⟩ := append_rs r6
      refine ⟨vs, q1, ?_, wipeE s5 ow, acc ++ [y], l', ?_, fun i hi o => wipeE_none hi, f2, by rw [List.append_assoc]; exact ha⟩
      · rw [q2]
        have z : (acc ++ y :: l').length ≤ sizeLine := by rw [ha]; exact hl
        rw [List.length_append, List.length_cons] at z
        omega
      · rw [← wipe_eq k3 hA]
        exact q3.wipe ow
    · rw [if_neg Bool.false_ne_true]
      refine ⟨wipeE s4 ow, acc, rest, ?_, fun i hi o => wipeE_none hi, f1, ha⟩
      rw [← wipe_eq k3 hA]
      exact r5.wipe ow
  · left
    have e : i = ds.length := by omega
    subst e
    rw [List.drop_length] at h3
    have e1 := Option.some.inj (show some (([] : List O), s) = some (rest, env') from h3)
    injection e1 with e1 e2
    subst e1 e2
    rw [List.append_nil] at ha
    subst ha
    obtain ⟨L, hE, hS⟩ := id r2
    have hS' : St Γ.cfg.K H2 (TI ++ (.rep (.lst acc) (.ref Dl) :: (T ++ L))) := by
      refine hS.perm ?_
      show (It.rep (.lst acc) (.ref Dl) :: (TI ++ T ++ L)).Perm _
      rw [List.append_assoc]
      exact List.perm_middle.symm
    refine ⟨wk.stop H2 _ hS', q _ H2 ?_⟩
    refine RS.unwipe (own := ow) ?_ hn
    exact r2.lift fun L h => h.sub (.cons₂ _ (by show (T ++ L).Sublist (TI ++ T ++ L); rw [List.append_assoc]; exact List.sublist_append_right _ _))
theorem sd_lc (hi : Si Γ tg iter src) (hk : scope.kind = .function) (hg : Sg (Γ.blk scope) tg g A) (ht : Sts (Γ.blk scope) ifs t) (he : Sd (Γ.blk scope) elt me) (hA : ∀ i ∈ A, i ∈ own.map (·.2)) (hb : blkFact Γ scope own = true) (nd : Γ.N.Nodup)
    (hs : ∀ (env : PySem.Env) x, foldedSetIterable iter env x = pure x := by intro _ _; rfl) : Sd Γ (.ListComp elt [⟨tg, iter, ifs, 0⟩] scope pos) (mLc (own.map (·.2)) src g t me) := ⟨fun X ok env o env' hm σ H T hr Q q => by
  refine ⟨_, pe_lc (own := own) ok.calm (by rw [ok.hN]; exact nd) (pi_best X tg iter) (blk_ok ok hb) (fun s H C cl fp => pg_all (ok.blk hk)) (fun s H C cl fp => pts_all (ok.blk hk)) (fun s H C cl fp => pe_all (ok.blk hk)) (hs X.env), ?_⟩
  exact lc_read hi hk hg ht he hA ok hm hr q⟩
/-- y = [..] on one line, y a local name: owned -/
theorem ss_setLcO {i : Nat} {y : Str} {py spos : Pos} (hi : Si Γ tg iter src) (hk : scope.kind = .function) (hg : Sg (Γ.blk scope) tg g A) (ht : Sts (Γ.blk scope) ifs t) (he : Sd (Γ.blk scope) elt me) (hA : ∀ i ∈ A, i ∈ own.map (·.2)) (hb : blkFact Γ scope own = true) (nd : Γ.N.Nodup)
    (hN : Γ.N[i]? = some y) (hy : Γ.sc.lookup y = some .local) (hl : (py.line == pos.line) = true) (ha : (scope.names.any fun (n, k) => n == y && (k == .local || k == .cell)) = false)
    (hs : ∀ (env : PySem.Env) x, foldedSetIterable iter env x = pure x := by intro _ _; rfl) : Ss Γ (.Assign [.Name y py] (.ListComp elt [⟨tg, iter, ifs, 0⟩] scope pos) spos) (sSetO i (mLc (own.map (·.2)) src g t me)) [i] := ⟨fun X ok env fl env' hm σ H T hr D q => by
  obtain ⟨o, s1, h1, h2⟩ := mbind_some hm
  obtain ⟨_, s2, h3, h4⟩ := mbind_some h2
  have e1 := Option.some.inj (show some (Fl.nx, s2) = some (fl, env') from h4)
  injection e1 with e1 e2
  subst e1 e2
  obtain ⟨g1, g2⟩ := mset_some h3
  have g2 : s2 = s1.set i (some o) := g2
  subst g2
  have hyl : X.env.scope.names.lookup y = some .local := by rw [ok.hsc]; exact hy
  refine ⟨_, ps_setLc (own := own) ok.calm (by rw [ok.hN]; exact nd) (by rw [ok.hN]; exact hN) hyl (sw_true ok.hkd hyl hl ha) (pi_best X tg iter) (blk_ok ok hb) (fun s H C cl fp => pg_all (ok.blk hk)) (fun s H C cl fp => pts_all (ok.blk hk)) (fun s H C cl fp => pe_all (ok.blk hk)) (hs X.env), ?_⟩
  exact lc_read hi hk hg ht he hA ok h1 hr fun v H' r => q _ H' (r.put g1) Kp.set⟩
theorem ss_setLc {i : Nat} {y : Str} {py spos : Pos} (hi : Si Γ tg iter src) (hk : scope.kind = .function) (hg : Sg (Γ.blk scope) tg g A) (ht : Sts (Γ.blk scope) ifs t) (he : Sd (Γ.blk scope) elt me) (hA : ∀ i ∈ A, i ∈ own.map (·.2)) (hb : blkFact Γ scope own = true) (nd : Γ.N.Nodup)
    (hN : Γ.N[i]? = some y) (hy : Γ.sc.lookup y = some .local) (hl : (py.line == pos.line) = true) (ha : (scope.names.any fun (n, k) => n == y && (k == .local || k == .cell)) = false)
    (hs : ∀ (env : PySem.Env) x, foldedSetIterable iter env x = pure x := by intro _ _; rfl) : Ss Γ (.Assign [.Name y py] (.ListComp elt [⟨tg, iter, ifs, 0⟩] scope pos) spos) (sSet i (mLc (own.map (·.2)) src g t me)) [i] := ⟨fun X ok env fl env' hm σ H T hr D q => by
  obtain ⟨o, s1, h1, h2⟩ := mbind_some hm
  obtain ⟨_, s2, h3, h4⟩ := mbind_some h2
  have e1 := Option.some.inj (show some (Fl.nx, s2) = some (fl, env') from h4)
  injection e1 with e1 e2
  subst e1 e2
  obtain ⟨g1, g2⟩ := mset_some h3
  have g2 : s2 = s1.set i (some (.d o.toD)) := g2
  subst g2
  have hyl : X.env.scope.names.lookup y = some .local := by rw [ok.hsc]; exact hy
  refine ⟨_, ps_setLc (own := own) ok.calm (by rw [ok.hN]; exact nd) (by rw [ok.hN]; exact hN) hyl (sw_true ok.hkd hyl hl ha) (pi_best X tg iter) (blk_ok ok hb) (fun s H C cl fp => pg_all (ok.blk hk)) (fun s H C cl fp => pts_all (ok.blk hk)) (fun s H C cl fp => pe_all (ok.blk hk)) (hs X.env), ?_⟩
  exact lc_read hi hk hg ht he hA ok h1 hr fun v H' r => q _ H' (r.freeze.put g1) Kp.set⟩
end
end BM

set_option Elab.async false
set_option linter.all false
set_option maxRecDepth 100000
set_option maxHeartbeats 4000000
/-! BM, part 8: defs and their calls. -/
namespace BM
open PySem PySem.Spec PyProof.Rows L2

/-! ### a def by its body -/
/-- what stands in the parameters' slots: owned where io says so -/
def inE : List Bool → List O → Env
  | b :: io, o :: os => some (if b = true then o else .d o.toD) :: inE io os
  | _, _ => []
def envIts : List Bool → List O → List V → List It
  | b :: io, o :: os, v :: vs => .rep (if b = true then o else .d o.toD) v :: envIts io os vs
  | _, _, _ => []
def keepIts : List Bool → List O → List V → List It
  | b :: io, o :: os, v :: vs => (if b = true then [] else [.rep (.d o.toD) v]) ++ keepIts io os vs
  | _, _, _ => []
def outsM : List Bool → List O → Nat → Env → Option (List O)
  | b :: io, o :: os, j, s => if b = true then (match s[j]? with
      | some (some o') => match outsM io os (j + 1) s with
        | some l => some (o' :: l)
        | none => none
      | _ => none)
    else (match outsM io os (j + 1) s with
      | some l => some (.d o.toD :: l)
      | none => none)
  | [], [], _, _ => some []
  | _, _, _, _ => none
/-- parameters first, then n more names -/
def callM (io : List Bool) (n : Nat) (body : M Fl) (os : List O) : Option (O × List O) := if os.length = io.length then (match body (inE io os ++ List.replicate n none) with
  | some (.rt o, s) => match outsM io os 0 s with
    | some outs => some (o, outs)
    | none => none
  | some (.nx, s) => match outsM io os 0 s with
    | some outs => some (.d .non, outs)
    | none => none
  | _ => none) else none
/-- what a def promises -/
def spOf (K : PySem.W.Frag) (np : Nat) (f : List O → Option (O × List O)) : Sp := fun vs H Q _ => ∃ T os r outs, f os = some (r, outs) ∧ os.length = np ∧ vs.length = np ∧ outs.length = np ∧ St K H (reps os vs ++ T) ∧
  ∀ v H', St K H' (.rep r v :: (reps outs vs ++ T)) → Q v H'
section
variable {K : PySem.W.Frag} {H : Hp}
theorem in_its : ∀ {io : List Bool} {os : List O} {vs : List V} {T : List It}, os.length = io.length → vs.length = io.length → St K H (reps os vs ++ T) → St K H (envIts io os vs ++ (keepIts io os vs ++ T))
  | [], [], [], _, _, _, h => h
  | b :: io, o :: os, v :: vs, T, l1, l2, h => by
    have h1 : St K H (reps os vs ++ (.rep o v :: T)) := (show St K H (.rep o v :: (reps os vs ++ T)) from h).perm List.perm_middle.symm
    have h2 := in_its (io := io) (by simpa using l1) (by simpa using l2) h1
    cases b with
    | true =>
      show St K H (.rep o v :: (envIts io os vs ++ (keepIts io os vs ++ T)))
      refine h2.perm ?_
      rw [← List.append_assoc, ← List.append_assoc]
      exact List.perm_middle
    | false =>
      show St K H (.rep (.d o.toD) v :: (envIts io os vs ++ ([.rep (.d o.toD) v] ++ keepIts io os vs ++ T)))
      have h3 : St K H (.rep o v :: (envIts io os vs ++ (keepIts io os vs ++ T))) := h2.perm (by
        rw [← List.append_assoc, ← List.append_assoc]
        exact List.perm_middle)
      have h4 := h3.freeze.dup
      refine h4.perm (.cons _ ?_)
      rw [List.append_assoc]
      exact List.perm_middle.symm
  | [], _ :: _, _, _, l1, _, _ => by cases l1
  | [], [], _ :: _, _, _, l2, _ => by cases l2
  | _ :: _, [], _, _, l1, _, _ => by cases l1
  | _ :: _, _ :: _, [], _, _, l2, _ => by cases l2
theorem env_start : ∀ {io : List Bool} {os : List O} {vs : List V} {n : Nat}, os.length = io.length → vs.length = io.length → EnvR (inE io os ++ List.replicate n none) (vs.map some ++ List.replicate n none) (envIts io os vs)
  | [], [], [], n, _, _ => by
    show EnvR (List.replicate n none) (List.replicate n none) []
    induction n with
    | zero => exact .nil
    | succ n ih => exact .no ih
  | b :: io, o :: os, v :: vs, n, l1, l2 => .yes (env_start (by simpa using l1) (by simpa using l2))
  | [], _ :: _, _, _, l1, _ => by cases l1
  | [], [], _ :: _, _, _, l2 => by cases l2
  | _ :: _, [], _, _, l1, _ => by cases l1
  | _ :: _, _ :: _, [], _, _, l2 => by cases l2
theorem outsM_set : ∀ {io : List Bool} {os : List O} {j i : Nat} {s : Env} {x : Option O}, i < j → outsM io os j (s.set i x) = outsM io os j s
  | [], [], _, _, _, _, _ => rfl
  | b :: io, o :: os, j, i, s, x, h => by
    rw [outsM, outsM, outsM_set (Nat.lt_succ_of_lt h), List.getElem?_set_ne (Nat.ne_of_lt h)]
  | [], _ :: _, _, _, _, _, _ => rfl
  | _ :: _, [], _, _, _, _, _ => rfl
theorem outsM_len : ∀ {io : List Bool} {os : List O} {j : Nat} {s : Env} {l : List O}, outsM io os j s = some l → l.length = os.length
  | [], [], _, _, l, h => by
    have e := Option.some.inj (show some [] = some l from h)
    subst e; rfl
  | b :: io, o :: os, j, s, l, h => by
    rw [outsM] at h
    cases b with
    | true =>
      rw [if_pos rfl] at h
      cases q : s[j]? with
      | none => simp only [q] at h; cases h
      | some y =>
        cases y with
        | none => simp only [q] at h; cases h
        | some o' =>
          simp only [q] at h
          cases q2 : outsM io os (j + 1) s with
          | none => simp only [q2] at h; cases h
          | some l' =>
            simp only [q2] at h
            have e := Option.some.inj h
            subst e
            rw [List.length_cons, List.length_cons, outsM_len q2]
    | false =>
      rw [if_neg Bool.false_ne_true] at h
      cases q2 : outsM io os (j + 1) s with
      | none => simp only [q2] at h; cases h
      | some l' =>
        simp only [q2] at h
        have e := Option.some.inj h
        subst e
        rw [List.length_cons, List.length_cons, outsM_len q2]
  | [], _ :: _, _, _, _, h => by cases h
  | _ :: _, [], _, _, _, h => by cases h
theorem out_its {σ : L2.St} : ∀ {io : List Bool} {os : List O} {vs : List V} {T Y : List It} {j : Nat} {s : Env} {outs : List O}, outsM io os j s = some outs → vs.length = io.length → (∀ (k : Nat), io[k]? = some true → σ[j + k]? = vs[k]?.map some) →
    RS K H s σ (Y ++ (keepIts io os vs ++ T)) → ∃ s', RS K H s' σ (Y ++ (reps outs vs ++ T))
  | [], [], [], T, Y, j, s, outs, h, _, _, r => by
    have e := Option.some.inj (show some [] = some outs from h)
    subst e
    exact ⟨s, r⟩
  | b :: io, o :: os, v :: vs, T, Y, j, s, outs, h, hl, hσ, r => by
    rw [outsM] at h
    cases b with
    | true =>
      rw [if_pos rfl] at h
      cases q : s[j]? with
      | none => simp only [q] at h; cases h
      | some y =>
        cases y with
        | none => simp only [q] at h; cases h
        | some o' =>
          simp only [q] at h
          cases q2 : outsM io os (j + 1) s with
          | none => simp only [q2] at h; cases h
          | some l' =>
            simp only [q2] at h
            have e := Option.some.inj h
            subst e
            have hv := hσ 0 rfl
            rw [Nat.add_zero] at hv
            have r' : RS K H s σ (Y ++ (keepIts io os vs ++ T)) := r
            obtain ⟨v', g1, g2⟩ := r'.take q
            rw [hv] at g1
            have e := Option.some.inj (Option.some.inj (show some (some v) = some (some v') from g1))
            subst e
            obtain ⟨s', r2⟩ := out_its (io := io) (os := os) (vs := vs) (T := T) (Y := .rep o' v :: Y) (j := j + 1) (s := s.set j none) (by rw [outsM_set (Nat.lt_succ_self _)]; exact q2) (by simpa using hl)
              (fun k hk => by
                have := hσ (k + 1) hk
                rw [show j + 1 + k = j + (k + 1) by omega, this]; rfl) g2
            exact ⟨s', r2.perm List.perm_middle.symm⟩
    | false =>
      rw [if_neg Bool.false_ne_true] at h
      cases q2 : outsM io os (j + 1) s with
      | none => simp only [q2] at h; cases h
      | some l' =>
        simp only [q2] at h
        have e := Option.some.inj h
        subst e
        have r' : RS K H s σ ((.rep (.d o.toD) v :: Y) ++ (keepIts io os vs ++ T)) := r.perm List.perm_middle
        obtain ⟨s', r2⟩ := out_its (io := io) (os := os) (vs := vs) (T := T) (Y := .rep (.d o.toD) v :: Y) (j := j + 1) q2 (by simpa using hl) (fun k hk => by
          have := hσ (k + 1) hk
          rw [show j + 1 + k = j + (k + 1) by omega, this]; rfl) r'
        exact ⟨s', r2.perm List.perm_middle.symm⟩
  | [], _ :: _, _, _, _, _, _, _, h, _, _, _ => by cases h
  | _ :: _, [], _, _, _, _, _, _, h, _, _, _ => by cases h
  | [], [], _ :: _, _, _, _, _, _, _, hl, _, _ => by cases hl
  | _ :: _, _ :: _, [], _, _, _, _, _, _, hl, _, _ => by cases hl
end
def noIo (A : List Nat) (io : List Bool) : Bool := A.all fun i => match io[i]? with
  | some true => false
  | _ => true
/-- THE RULE of a def -/
theorem fn_ok {cfg : Cfg} {name qual : Str} {st : Stmt} {f : Addr} {fd : FuncData} {N ps : List Str} {k n : Nat} {io : List Bool} {m : M Fl} {A : List Nat} (F : Fun cfg.K name qual st f fd) (S : FnScope N ps (defScope st))
    (hb : Sb ⟨cfg, N, (defScope st).names, fun _ => true, k⟩ (defBody st) m A) (hio : io.length = ps.length := by decide) (hN : N.length = io.length + n := by decide) (hA : noIo A io = true := by decide) :
    FnG cfg (k + 1) f fd ps (spOf cfg.K io.length (callM io n m)) := by
  refine fnG_of F S (fun vs H Q E h => ?_) (fun cdv A' outer s H vs Q E hr hgd h => ?_)
  · obtain ⟨T, os, r, outs, _, _, h2, _⟩ := h
    rw [h2, hio]
  · obtain ⟨T, os, r, outs, h1, h2, h3, h4, hS, q⟩ := h
    refine ⟨_, pss_best _ _, ?_⟩
    have ok : Gm.Ok ⟨cfg, N, (defScope st).names, fun _ => true, k⟩ (cxOf CX0 cfg.P cfg.w cfg.K cfg.mg cfg.base N qual (defScope st) f cdv A' outer s H E).nox :=
      ⟨rfl, rfl, rfl, rfl, rfl, rfl, rfl, S.kind, rfl, rfl, hr, rfl, hgd⟩
    unfold callM at h1
    rw [if_pos h2] at h1
    have hst : L2.start N vs = vs.map some ++ List.replicate n none := by
      unfold L2.start
      rw [hN, h3, Nat.add_sub_cancel_left]
    rw [hst]
    have r0 : RS cfg.K H (inE io os ++ List.replicate n none) (vs.map some ++ List.replicate n none) (keepIts io os vs ++ T) :=
      ⟨_, env_start h2 h3, (in_its h2 h3 hS).perm List.perm_append_comm⟩
    have fin : ∀ {o : O} {s' : Env} {v : V} {σ' : L2.St} {H' : Hp} {outs' : List O}, outsM io os 0 s' = some outs' → Kp A (vs.map some ++ List.replicate n none) σ' → RS cfg.K H' s' σ' (.rep o v :: (keepIts io os vs ++ T)) → St cfg.K H' (.rep o v :: (reps outs' vs ++ T)) := by
      intro o s' v σ' H' outs' e kp r
      obtain ⟨s2, L, hE, hS'⟩ := out_its (Y := [.rep o v]) (j := 0) (σ := σ') e h3 (fun k hk => by
        rw [Nat.zero_add]
        have hkA : k ∉ A := fun hm => by
          unfold noIo at hA
          have z := List.all_eq_true.mp hA k hm
          rw [hk] at z; cases z
        rw [kp.2 k hkA]
        have hlt : k < vs.length := by
          rw [h3]
          exact (List.getElem?_eq_some_iff.mp hk).1
        rw [List.getElem?_append_left (by simpa using hlt), List.getElem?_map]) r
      refine hS'.sub ?_
      show (It.rep o v :: (reps outs' vs ++ T)).Sublist ((It.rep o v :: (reps outs' vs ++ T)) ++ L)
      exact List.sublist_append_left _ _
    cases q1 : m (inE io os ++ List.replicate n none) with
    | none => rw [q1] at h1; cases h1
    | some p =>
      obtain ⟨fl, s'⟩ := p
      rw [q1] at h1
      refine hb.run _ ok _ fl s' q1 _ H _ r0 _ ?_
      cases fl with
      | nx =>
        simp only at h1
        cases q2 : outsM io os 0 s' with
        | none => simp only [q2] at h1; cases h1
        | some outs' =>
          simp only [q2] at h1
          have e1 := Option.some.inj h1
          injection e1 with e1 e2
          subst e1 e2
          exact fun σ' H' r' kp => q .non H' (fin q2 kp (r'.lift fun L h => h.flat rfl))
      | bk => cases h1
      | ct => cases h1
      | rt o =>
        simp only at h1
        cases q2 : outsM io os 0 s' with
        | none => simp only [q2] at h1; cases h1
        | some outs' =>
          simp only [q2] at h1
          have e1 := Option.some.inj h1
          injection e1 with e1 e2
          subst e1 e2
          exact fun v σ' H' r' kp => q v H' (fin q2 kp r')

/-! ### arguments -/
def Ar.its : Ar → V → List It
  | .val o, v => [.rep o v]
  | .plc _, _ => []
def Ar.at (σ : L2.St) : Ar → V → Prop
  | .val _, _ => True
  | .plc i, v => σ[i]? = some (some v)
structure Sar1 (Γ : Gm) (e : Expr) (m : M Ar) : Prop where
  run : ∀ X, Γ.Ok X → ∀ env a env', m env = some (a, env') → ∀ σ H T, RS Γ.cfg.K H env σ T → ∀ Q : VK, (∀ v H', RS Γ.cfg.K H' env' σ (a.its v ++ T) → a.at σ v → Q v H') → WE X e σ H Q
structure Sars (Γ : Gm) (es : List Expr) (ms : List (M Ar)) : Prop where
  run : ∀ X, Γ.Ok X → ∀ env ods env', mars ms env = some (ods, env') → ∀ σ H T, RS Γ.cfg.K H env σ T → ∀ Q : List V → Hp → Prop,
    (∀ vs H', RS Γ.cfg.K H' env' σ ((List.zipWith Ar.its ods vs).flatten ++ T) → ods.length = vs.length → (∀ p ∈ ods.zip vs, p.1.at σ p.2) → Q vs H') → WL X es σ H Q
section
variable {Γ : Gm} {e : Expr} {es : List Expr} {p pos : Pos} {x : Str}
theorem sar_val {m : M O} (h : Sd Γ e m) : Sar1 Γ e (aval m) := ⟨fun X ok env a env' hm σ H T hr Q q => by
  unfold aval at hm
  cases q' : m env with
  | none => rw [q'] at hm; cases hm
  | some p =>
    obtain ⟨o, s'⟩ := p
    rw [q'] at hm
    have e1 := Option.some.inj hm
    injection e1 with e1 e2
    subst e1 e2
    exact h.run X ok env o s' q' σ H T hr Q fun v H' r => q v H' r trivial⟩
def aplc' (i : Nat) : M Ar := fun s => match s[i]? with
  | some (some _) => some (.plc i, s)
  | _ => none
theorem sar_plc (i : Nat) (hN : Γ.N[i]? = some x := by rfl) (hv : Γ.vis x = true := by kernel_rfl) (hd : (x == ("__debug__" : Str)) = false := by kernel_rfl) (hcd : (x == ("__classdict__" : Str)) = false := by kernel_rfl) : Sar1 Γ (.Name x p) (aplc' i) := ⟨fun X ok env a env' hm σ H T hr Q q => by
  unfold aplc' at hm
  cases q1 : env[i]? with
  | none => simp only [q1] at hm; cases hm
  | some y =>
    cases y with
    | none => simp only [q1] at hm; cases hm
    | some o1 =>
      simp only [q1] at hm
      have e1 := Option.some.inj hm
      injection e1 with e1 e2
      subst e1 e2
      obtain ⟨v, hs, r⟩ := hr.take q1
      exact ⟨tVar i, pe_var (by rw [ok.hN]; exact hN) (ok.vis hv) hd hcd, v, hs, q v H hr hs⟩⟩
theorem sars_nil : Sars Γ [] [] := ⟨fun X ok env ods env' hm σ H T hr Q q => by
  have e1 := Option.some.inj (show some (([] : List Ar), env) = some (ods, env') from hm)
  injection e1 with e1 e2
  subst e1 e2
  exact q [] H hr rfl fun p hp => by cases hp⟩
theorem sars_cons {m : M Ar} {ms : List (M Ar)} (h : Sar1 Γ e m) (hs : Sars Γ es ms) : Sars Γ (e :: es) (m :: ms) := ⟨fun X ok env ods env' hm σ H T hr Q q => by
  obtain ⟨a, s1, h1, h2⟩ := mbind_some (show mbind m (fun a => mbind (mars ms) fun l => mpure (a :: l)) env = _ from hm)
  obtain ⟨l, s2, h3, h4⟩ := mbind_some h2
  have e1 := Option.some.inj (show some (a :: l, s2) = some (ods, env') from h4)
  injection e1 with e1 e2
  subst e1 e2
  refine h.run X ok env a s1 h1 σ H T hr _ fun v H1 r1 at1 => ?_
  refine hs.run X ok s1 l s2 h3 σ H1 (a.its v ++ T) r1 _ fun vs H2 r2 l2 at2 => ?_
  refine q (v :: vs) H2 ?_ (by simp [l2]) fun p hp => ?_
  · refine RS.perm ?_ r2
    show ((List.zipWith Ar.its l vs).flatten ++ (a.its v ++ T)).Perm (((a.its v) :: List.zipWith Ar.its l vs).flatten ++ T)
    rw [List.flatten_cons, ← List.append_assoc, List.append_assoc (a.its v)]
    rw [← List.append_assoc]
    exact List.perm_append_comm.append_right T
  · rcases List.mem_cons.mp hp with rfl | hp
    · exact at1
    · exact at2 p hp⟩
theorem take_rs {K : PySem.W.Frag} {H : Hp} {σ : L2.St} : ∀ {ars : List Ar} {vs : List V} {s s' : Env} {os : List O} {T : List It}, takeArs ars s = some (os, s') → ars.length = vs.length → (∀ p ∈ ars.zip vs, p.1.at σ p.2) →
    RS K H s σ ((List.zipWith Ar.its ars vs).flatten ++ T) → os.length = vs.length ∧ RS K H s' σ (reps os vs ++ T)
  | [], [], s, s', os, T, h, _, _, r => by
    have e1 := Option.some.inj (show some (([] : List O), s) = some (os, s') from h)
    injection e1 with e1 e2
    subst e1 e2
    exact ⟨rfl, r⟩
  | .val o :: ars, v :: vs, s, s', os, T, h, hl, ha, r => by
    obtain ⟨l, s1, h1, h2⟩ := mbind_some (show mbind (takeArs ars) (fun l => mpure (o :: l)) s = _ from h)
    have e1 := Option.some.inj (show some (o :: l, s1) = some (os, s') from h2)
    injection e1 with e1 e2
    subst e1 e2
    have r1 : RS K H s σ ((List.zipWith Ar.its ars vs).flatten ++ (.rep o v :: T)) := r.perm (by
      show (.rep o v :: ((List.zipWith Ar.its ars vs).flatten ++ T)).Perm _
      exact List.perm_middle.symm)
    obtain ⟨l1, r2⟩ := take_rs h1 (by simpa using hl) (fun p hp => ha p (List.mem_cons_of_mem _ hp)) r1
    exact ⟨by simp [l1], r2.perm List.perm_middle⟩
  | .plc i :: ars, v :: vs, s, s', os, T, h, hl, ha, r => by
    rw [takeArs] at h
    cases q : s[i]? with
    | none => simp only [q] at h; cases h
    | some y =>
      cases y with
      | none => simp only [q] at h; cases h
      | some o =>
        simp only [q] at h
        cases q2 : takeArs ars (s.set i none) with
        | none => simp only [q2] at h; cases h
        | some p =>
          obtain ⟨l, s1⟩ := p
          simp only [q2] at h
          have e1 := Option.some.inj h
          injection e1 with e1 e2
          subst e1 e2
          have hv : σ[i]? = some (some v) := ha (.plc i, v) List.mem_cons_self
          have r0 : RS K H s σ ((List.zipWith Ar.its ars vs).flatten ++ T) := r
          obtain ⟨v', g1, g2⟩ := r0.take q
          rw [hv] at g1
          have e := Option.some.inj (Option.some.inj g1)
          subst e
          obtain ⟨l1, r2⟩ := take_rs (T := .rep o v :: T) q2 (by simpa using hl) (fun p hp => ha p (List.mem_cons_of_mem _ hp)) (g2.perm List.perm_middle.symm)
          exact ⟨by simp [l1], r2.perm List.perm_middle⟩
  | [], _ :: _, _, _, _, _, _, hl, _, _ => by cases hl
  | _ :: _, [], _, _, _, _, _, hl, _, _ => by cases hl
theorem give_rs {K : PySem.W.Frag} {H : Hp} {σ : L2.St} : ∀ {ars : List Ar} {vs : List V} {s s' : Env} {outs : List O} {Y T : List It} {u : Unit}, giveArs ars outs s = some (u, s') → ars.length = vs.length → (∀ p ∈ ars.zip vs, p.1.at σ p.2) →
    RS K H s σ (Y ++ (reps outs vs ++ T)) → RS K H s' σ (Y ++ T)
  | [], [], s, s', outs, Y, T, u, h, _, _, r => by
    cases outs with
    | nil =>
      have e1 := Option.some.inj (show some ((), s) = some (u, s') from h)
      injection e1 with e1 e2
      subst e2
      exact r
    | cons => cases h
  | .val o :: ars, v :: vs, s, s', outs, Y, T, u, h, hl, ha, r => by
    cases outs with
    | nil => cases h
    | cons o' outs =>
      have h' : giveArs ars outs s = some (u, s') := h
      have r1 : RS K H s σ (Y ++ (reps outs vs ++ T)) := (r.perm (List.perm_middle (l₁ := Y))).drop
      exact give_rs h' (by simpa using hl) (fun p hp => ha p (List.mem_cons_of_mem _ hp)) r1
  | .plc i :: ars, v :: vs, s, s', outs, Y, T, u, h, hl, ha, r => by
    cases outs with
    | nil => cases h
    | cons o' outs =>
      have h' : (if i < s.length then giveArs ars outs (s.set i (some o')) else none) = some (u, s') := h
      by_cases hi : i < s.length
      · rw [if_pos hi] at h'
        have hv : σ[i]? = some (some v) := ha (.plc i, v) List.mem_cons_self
        have r1 : RS K H s σ (.rep o' v :: (Y ++ (reps outs vs ++ T))) := r.perm List.perm_middle
        exact give_rs h' (by simpa using hl) (fun p hp => ha p (List.mem_cons_of_mem _ hp)) (r1.putSame hv)
      · rw [if_neg hi] at h'; cases h'
  | [], _ :: _, _, _, _, _, _, _, _, hl, _, _ => by cases hl
  | _ :: _, [], _, _, _, _, _, _, _, hl, _, _ => by cases hl
/-! ### the order of keywords -/
def permL {α : Type} (π : List Nat) (l : List α) : List α := π.filterMap fun i => l[i]?
def permF (π ρ : List Nat) (f : List O → Option (O × List O)) : List O → Option (O × List O) := fun os => match f (permL π os) with
  | some (r, outs) => some (r, permL ρ outs)
  | none => none
theorem mCall_some {f : List O → Option (O × List O)} {ms : List (M Ar)} {env : Env} {r : O × Env} (h : mCall f ms env = some r) : ∃ ars s1 os s2 o outs s3, mars ms env = some (ars, s1) ∧ takeArs ars s1 = some (os, s2) ∧ f os = some (o, outs) ∧ giveArs ars outs s2 = some ((), s3) ∧ r = (o, s3) := by
  obtain ⟨ars, s1, h1, h2⟩ := mbind_some h
  obtain ⟨os, s2, h3, h4⟩ := mbind_some h2
  cases q : f os with
  | none => simp only [q] at h4; cases h4
  | some p =>
    obtain ⟨o, outs⟩ := p
    simp only [q] at h4
    cases q2 : giveArs ars outs s2 with
    | none => simp only [q2] at h4; cases h4
    | some p2 =>
      obtain ⟨_, s3⟩ := p2
      simp only [q2] at h4
      exact ⟨ars, s1, os, s2, o, outs, s3, h1, h3, q, q2, (Option.some.inj h4).symm⟩
/-- the call itself, from the arguments' values -/
theorem call_read {cfg : Cfg} {Γ : Gm} {f : List O → Option (O × List O)} {np : Nat} {ars : List Ar} {vs : List V} {s1 s2 s3 : Env} {os outs : List O} {o : O} {σ : L2.St} {H : Hp} {T : List It} (h2 : takeArs ars s1 = some (os, s2)) (h3 : f os = some (o, outs))
    (h4 : giveArs ars outs s2 = some ((), s3)) (hl : ars.length = vs.length) (ha : ∀ p ∈ ars.zip vs, p.1.at σ p.2) (hr : RS Γ.cfg.K H s1 σ ((List.zipWith Ar.its ars vs).flatten ++ T)) (hn : vs.length = np) (ho : outs.length = np) {Q : VK} {E : XK}
    (q : ∀ v H', RS Γ.cfg.K H' s3 σ (.rep o v :: T) → Q v H') : spOf Γ.cfg.K np f vs H Q E := by
  obtain ⟨l1, L, hE, hS⟩ := take_rs h2 hl ha hr
  refine ⟨T ++ L, os, o, outs, h3, l1.trans hn, hn, ho, by rw [← List.append_assoc]; exact hS, fun v H' hS' => q v H' ?_⟩
  have r : RS Γ.cfg.K H' s2 σ ([.rep o v] ++ (reps outs vs ++ T)) := ⟨L, hE, by
    rw [← List.append_assoc] at hS'
    exact hS'⟩
  exact give_rs h4 hl ha r
end
end BM

set_option Elab.async false
set_option linter.all false
set_option maxRecDepth 100000
set_option maxHeartbeats 4000000
/-! BM, part 9: the calls of defs. -/
namespace BM
open PySem PySem.Spec PyProof.Rows L2

/-! ### orders -/
theorem permL_get {α : Type} {l : List α} {n : Nat} (hl : l.length = n) : ∀ {π : List Nat}, (∀ i ∈ π, i < n) → ∀ (j : Nat), (permL π l)[j]? = (π[j]?).bind fun i => l[i]?
  | [], _, j => by simp [permL]
  | i :: π, h, j => by
    have hi : i < l.length := by rw [hl]; exact h i List.mem_cons_self
    have e : permL (i :: π) l = l[i] :: permL π l := by
      unfold permL
      rw [List.filterMap_cons, List.getElem?_eq_getElem hi]
    rw [e]
    cases j with
    | zero => simp [hi]
    | succ j =>
      rw [List.getElem?_cons_succ, permL_get hl (fun k hk => h k (List.mem_cons_of_mem _ hk)) j]
      simp
theorem permL_len {α : Type} {l : List α} {n : Nat} (hl : l.length = n) : ∀ {π : List Nat}, (∀ i ∈ π, i < n) → (permL π l).length = π.length
  | [], _ => rfl
  | i :: π, h => by
    have hi : i < l.length := by rw [hl]; exact h i List.mem_cons_self
    have e : permL (i :: π) l = l[i] :: permL π l := by
      unfold permL
      rw [List.filterMap_cons, List.getElem?_eq_getElem hi]
    rw [e, List.length_cons, List.length_cons, permL_len hl fun k hk => h k (List.mem_cons_of_mem _ hk)]
theorem permL_perm {α : Type} {π ρ : List Nat} {l : List α} (p : π.Perm ρ) : (permL π l).Perm (permL ρ l) := p.filterMap _
theorem permL_range {α : Type} (l : List α) : permL (List.range l.length) l = l := by
  refine List.ext_getElem? fun j => ?_
  rw [permL_get rfl fun i hi => List.mem_range.mp hi]
  by_cases hj : j < l.length
  · rw [List.getElem?_range hj]; rfl
  · rw [List.getElem?_eq_none (by simpa using hj), List.getElem?_eq_none (by simpa using hj)]; rfl
theorem permL_inv {α : Type} {π ρ : List Nat} {n : Nat} {l : List α} (hl : l.length = n) (hπ : ∀ i ∈ π, i < n) (hn : π.length = n) (hρ : ∀ i ∈ ρ, i < n) (h : permL ρ π = List.range n) : permL ρ (permL π l) = l := by
  refine List.ext_getElem? fun j => ?_
  rw [permL_get ((permL_len hl hπ).trans hn) hρ]
  have e : (permL ρ π)[j]? = (List.range n)[j]? := congrArg (fun z : List Nat => z[j]?) h
  rw [permL_get hn hρ] at e
  cases q : ρ[j]? with
  | none =>
    rw [q] at e
    have hj : ¬ j < n := fun hj => by
      rw [List.getElem?_range hj] at e; cases e
    rw [List.getElem?_eq_none (by omega)]; rfl
  | some i =>
    rw [q] at e
    show (permL π l)[i]? = _
    rw [permL_get hl hπ]
    have e' : π[i]? = (List.range n)[j]? := e
    rw [e']
    by_cases hj : j < n
    · rw [List.getElem?_range hj]; rfl
    · rw [List.getElem?_eq_none (by simpa using hj), List.getElem?_eq_none (by omega)]; rfl
theorem reps_perm {os : List O} {vs : List V} (hl : os.length = vs.length) : ∀ {π : List Nat}, (∀ i ∈ π, i < vs.length) → reps (permL π os) (permL π vs) = permL π (reps os vs)
  | [], _ => rfl
  | i :: π, h => by
    have hi : i < vs.length := h i List.mem_cons_self
    have hi' : i < os.length := by rw [hl]; exact hi
    have e1 : permL (i :: π) os = os[i] :: permL π os := by
      unfold permL
      rw [List.filterMap_cons, List.getElem?_eq_getElem hi']
    have e2 : permL (i :: π) vs = vs[i] :: permL π vs := by
      unfold permL
      rw [List.filterMap_cons, List.getElem?_eq_getElem hi]
    have key : ∀ (os : List O) (vs : List V) (i : Nat) (h1 : i < os.length) (h2 : i < vs.length), (reps os vs)[i]? = some (.rep os[i] vs[i]) := by
      intro os
      induction os with
      | nil => intro vs i h1; cases h1
      | cons o os ih =>
        intro vs i h1 h2
        cases vs with
        | nil => cases h2
        | cons v vs =>
          cases i with
          | zero => rfl
          | succ i =>
            show (reps os vs)[i]? = _
            exact ih vs i (by simpa using h1) (by simpa using h2)
    have e3 : permL (i :: π) (reps os vs) = .rep os[i] vs[i] :: permL π (reps os vs) := by
      unfold permL
      rw [List.filterMap_cons, key os vs i hi' hi]
    rw [e1, e2, e3]
    show .rep os[i] vs[i] :: reps (permL π os) (permL π vs) = _
    rw [reps_perm hl fun k hk => h k (List.mem_cons_of_mem _ hk)]
theorem reps_len {os : List O} {vs : List V} (hl : os.length = vs.length) : (reps os vs).length = vs.length := by
  induction os generalizing vs with
  | nil =>
    cases vs with
    | nil => rfl
    | cons => cases hl
  | cons o os ih =>
    cases vs with
    | nil => cases hl
    | cons v vs =>
      show (reps os vs).length + 1 = _
      rw [ih (by simpa using hl)]; rfl
/-- π, ρ: an order of n places and its inverse -/
structure Ord (n : Nat) (π ρ : List Nat) : Prop where
  perm : π.Perm (List.range n)
  perm' : ρ.Perm (List.range n)
  inv : permL ρ π = List.range n
theorem Ord.lt {n : Nat} {π ρ : List Nat} (o : Ord n π ρ) : ∀ i ∈ π, i < n := fun i hi => List.mem_range.mp (o.perm.mem_iff.mp hi)
theorem Ord.lt' {n : Nat} {π ρ : List Nat} (o : Ord n π ρ) : ∀ i ∈ ρ, i < n := fun i hi => List.mem_range.mp (o.perm'.mem_iff.mp hi)
theorem Ord.len {n : Nat} {π ρ : List Nat} (o : Ord n π ρ) : π.length = n := by rw [o.perm.length_eq, List.length_range]
theorem Ord.len' {n : Nat} {π ρ : List Nat} (o : Ord n π ρ) : ρ.length = n := by rw [o.perm'.length_eq, List.length_range]
def ordB (n : Nat) (π ρ : List Nat) : Bool := (List.range n).all (fun i => π.count i == 1 && ρ.count i == 1) && π.all (· < n) && ρ.all (· < n) && decide (permL ρ π = List.range n) && decide (π.length = n) && decide (ρ.length = n)
theorem perm_of_count {n : Nat} {π : List Nat} (h1 : ∀ i < n, π.count i = 1) (h2 : ∀ i ∈ π, i < n) : π.Perm (List.range n) := by
  rw [List.perm_iff_count]
  intro a
  by_cases ha : a < n
  · rw [h1 a ha, List.nodup_range.count, if_pos (List.mem_range.mpr ha)]
  · rw [List.count_eq_zero.mpr (fun z => ha (h2 a z)), List.count_eq_zero.mpr (fun z => ha (List.mem_range.mp z))]
theorem ord_of {n : Nat} {π ρ : List Nat} (h : ordB n π ρ = true) : Ord n π ρ := by
  unfold ordB at h
  simp only [Bool.and_eq_true, List.all_eq_true, decide_eq_true_eq, beq_iff_eq, List.mem_range] at h
  obtain ⟨⟨⟨⟨⟨h1, h2⟩, h3⟩, h4⟩, h5⟩, h6⟩ := h
  exact ⟨perm_of_count (fun i hi => (h1 i hi).1) h2, perm_of_count (fun i hi => (h1 i hi).2) h3, h4⟩
theorem permF_some {π ρ : List Nat} {f : List O → Option (O × List O)} {os : List O} {r : O × List O} (h : permF π ρ f os = some r) : ∃ outs, f (permL π os) = some (r.1, outs) ∧ r.2 = permL ρ outs := by
  unfold permF at h
  cases q : f (permL π os) with
  | none => rw [q] at h; cases h
  | some p =>
    obtain ⟨o, outs⟩ := p
    rw [q] at h
    have e := Option.some.inj h
    subst e
    exact ⟨outs, rfl, rfl⟩
theorem sp_perm {K : PySem.W.Frag} {np : Nat} {π ρ : List Nat} {f : List O → Option (O × List O)} {vs : List V} {H : Hp} {Q : VK} {E : XK} (o : Ord np π ρ) (hlen : ∀ os r outs, f os = some (r, outs) → os.length = np → outs.length = np) (h : spOf K np (permF π ρ f) vs H Q E) : spOf K np f (permL π vs) H Q E := by
  obtain ⟨T, os, r, outs, h1, h2, h3, h4, hS, q⟩ := h
  obtain ⟨outs', g1, g2⟩ := permF_some h1
  have g2 : outs = permL ρ outs' := g2
  subst g2
  have l1 : (permL π os).length = np := (permL_len h2 o.lt).trans o.len
  have l2 : (permL π vs).length = np := (permL_len h3 o.lt).trans o.len
  have l3 := hlen _ _ _ g1 l1
  refine ⟨T, permL π os, r, outs', g1, l1, l2, l3, ?_, fun v H' hS' => q v H' ?_⟩
  · rw [reps_perm (h2.trans h3.symm) (by rw [h3]; exact o.lt)]
    refine hS.perm (List.Perm.append_right T ?_)
    refine ((permL_perm o.perm).trans ?_).symm
    have e : (reps os vs).length = np := (reps_len (h2.trans h3.symm)).trans h3
    rw [← e, permL_range]
  · refine hS'.perm (.cons _ (List.Perm.append_right T ?_))
    have e1 : reps (permL ρ outs') vs = permL ρ (reps outs' (permL π vs)) := by
      rw [← reps_perm (l3.trans l2.symm) (by rw [l2]; exact o.lt'), permL_inv h3 o.lt o.len o.lt' o.inv]
    rw [e1]
    refine ((permL_perm o.perm').trans ?_).symm
    have e : (reps outs' (permL π vs)).length = np := (reps_len (l3.trans l2.symm)).trans l2
    rw [← e, permL_range]
/-! ### calls -/
theorem Gm.Ok.at_ {Γ : Gm} {X : Cx} (h : Γ.Ok X) : At X Γ.cfg := ⟨h.hP, h.hw, h.hK, h.hmg, h.hbase, h.gd⟩
/-- the def x of the module, at fa: it keeps the promise of f -/
structure FnD (cfg : Cfg) (k : Nat) (x : Str) (fa : Addr) (fd : FuncData) (ps : List Str) (np : Nat) (f : List O → Option (O × List O)) : Prop where
  at_ : cfg.mg x = some (.ref fa)
  kp : PySem.W.keepIn cfg.K (.ref fa) = true
  ok : FnG cfg k fa fd ps (spOf cfg.K np f)
  len : ∀ os r outs, f os = some (r, outs) → os.length = np → outs.length = np
theorem callM_len {io : List Bool} {n : Nat} {m : M Fl} {os outs : List O} {r : O} (h : callM io n m os = some (r, outs)) : outs.length = os.length := by
  unfold callM at h
  by_cases hl : os.length = io.length
  · rw [if_pos hl] at h
    cases q : m (inE io os ++ List.replicate n none) with
    | none => rw [q] at h; cases h
    | some p =>
      obtain ⟨fl, s⟩ := p
      rw [q] at h
      cases fl with
      | nx =>
        simp only at h
        cases q2 : outsM io os 0 s with
        | none => simp only [q2] at h; cases h
        | some l =>
          simp only [q2] at h
          have e := Option.some.inj h
          injection e with e1 e2
          subst e2
          exact outsM_len q2
      | bk => cases h
      | ct => cases h
      | rt o =>
        simp only at h
        cases q2 : outsM io os 0 s with
        | none => simp only [q2] at h; cases h
        | some l =>
          simp only [q2] at h
          have e := Option.some.inj h
          injection e with e1 e2
          subst e2
          exact outsM_len q2
  · rw [if_neg hl] at h; cases h
theorem wl_len {X : Cx} : ∀ {es : List Expr} {σ : L2.St} {H : Hp} {Q : List V → Hp → Prop}, WL X es σ H Q → WL X es σ H fun vs H' => vs.length = es.length ∧ Q vs H'
  | [], σ, H, Q, w => ⟨rfl, w⟩
  | e :: es, σ, H, Q, w => WE.mono w fun v H' w' => by
    have z := wl_len w'
    exact wl_mono z fun vs H'' ⟨l, q⟩ => ⟨by simp [l], q⟩
where wl_mono {X : Cx} : ∀ {es : List Expr} {σ : L2.St} {H : Hp} {Q Q' : List V → Hp → Prop}, WL X es σ H Q → (∀ vs H', Q vs H' → Q' vs H') → WL X es σ H Q'
  | [], σ, H, Q, Q', w, k => k [] H w
  | e :: es, σ, H, Q, Q', w, k => WE.mono w fun v H' w' => wl_mono w' fun vs H'' q => k (v :: vs) H'' q
theorem wl_app {X : Cx} : ∀ {es es' : List Expr} {σ : L2.St} {H : Hp} {Q : List V → Hp → Prop}, WL X (es ++ es') σ H Q → WL X es σ H fun vs H1 => WL X es' σ H1 fun zs H2 => Q (vs ++ zs) H2
  | [], _, _, _, _, w => w
  | e :: es, es', σ, H, Q, w => WE.mono w fun v H' w' => wl_app w'
section
variable {Γ : Gm} {e : Expr} {es : List Expr} {p pos : Pos} {x : Str} {ms : List (M Ar)} {k np : Nat} {fa : Addr} {fd : FuncData} {ps : List Str} {f : List O → Option (O × List O)}
theorem sd_call (F : FnD Γ.cfg k x fa fd ps np f) (hb : Binds Γ.cfg.K fd ps []) (hn : NoStars (e :: es)) (ha : Sars Γ (e :: es) ms) (hl : (e :: es).length = np := by rfl) (hk : k ≤ Γ.n := by exact Nat.le_of_ble_eq_true rfl) (hg : Γ.glo x = true := by kernel_rfl) (hdb : (x == ("__debug__" : Str)) = false := by kernel_rfl) :
    Sd Γ (.Call (.Name x p) (e :: es) [] pos) (mCall f ms) := ⟨fun X ok env o env' hm σ H T hr Q q => by
  obtain ⟨ars, s1, os, s2, o', outs, s3, h1, h2, h3, h4, e1⟩ := mCall_some hm
  injection e1 with e1 e2
  subst e1 e2
  refine ⟨_, peG_call ok.at_ F.ok (ok.room.mono hk) (ok.glo hg) F.at_ F.kp hb hdb (pa_of hn) (ns_head hn _) (backTo_plain (ns_tail hn)), ?_⟩
  have w := ha.run X ok env ars s1 h1 σ H T hr (fun vs H' => RS Γ.cfg.K H' s1 σ ((List.zipWith Ar.its ars vs).flatten ++ T) ∧ ars.length = vs.length ∧ (∀ p ∈ ars.zip vs, p.1.at σ p.2)) fun vs H' r l a => ⟨r, l, a⟩
  refine wl_len.wl_mono (wl_len w) fun vs H' ⟨hv, r, l, a⟩ => ?_
  rw [List.append_nil]
  have hos : os.length = vs.length := (take_rs h2 l a r).1
  exact call_read (cfg := Γ.cfg) h2 h3 h4 l a r (hv.trans hl) (F.len _ _ _ h3 (hos.trans (hv.trans hl))) q⟩
theorem sd_call0 (F : FnD Γ.cfg k x fa fd ps 0 f) (hb : Binds Γ.cfg.K fd ps []) (hk : k ≤ Γ.n := by exact Nat.le_of_ble_eq_true rfl) (hg : Γ.glo x = true := by kernel_rfl) (hdb : (x == ("__debug__" : Str)) = false := by kernel_rfl) :
    Sd Γ (.Call (.Name x p) [] [] pos) (mCall f []) := ⟨fun X ok env o env' hm σ H T hr Q q => by
  obtain ⟨ars, s1, os, s2, o', outs, s3, h1, h2, h3, h4, e1⟩ := mCall_some hm
  injection e1 with e1 e2
  subst e1 e2
  refine ⟨_, peG_call0 ok.at_ F.ok (ok.room.mono hk) (ok.glo hg) F.at_ F.kp hb hdb, ?_⟩
  have e1 := Option.some.inj (show some (([] : List Ar), env) = some (ars, s1) from h1)
  injection e1 with e1 e2
  subst e1 e2
  have r : RS Γ.cfg.K H env σ ((List.zipWith Ar.its [] []).flatten ++ T) := hr
  have hos : os.length = 0 := (take_rs (vs := []) h2 rfl (fun p hp => by cases hp) r).1
  exact call_read (cfg := Γ.cfg) (E := E0) (vs := []) h2 h3 h4 rfl (fun p hp => by cases hp) r rfl (F.len _ _ _ h3 hos) q⟩
/-! ### with keywords -/
theorem pk_of {X : Cx} : ∀ {kws : List Keyword}, PK X kws (fun σ H Q => WL X (kws.map (·.value)) σ H Q)
  | [] => pk_nil
  | ⟨a, e, p⟩ :: kws => pk_cons (pe_best X e) pk_of
theorem vals_perm {π : List Nat} {vs zs : List V} {us ws : List Value} (h : Vals vs us) (h' : Vals zs ws) : Vals (permL π (vs ++ zs)) (permL π (us ++ ws)) := by
  have h2 := h.append h'
  induction π with
  | nil => exact .nil
  | cons i π ih =>
    unfold permL
    rw [List.filterMap_cons, List.filterMap_cons]
    cases q : (vs ++ zs)[i]? with
    | none => rw [h2.none_of q]; exact ih
    | some v =>
      obtain ⟨u, g1, g2⟩ := h2.get q
      rw [g1]
      exact .cons g2 ih
/-- how a call with keywords binds -/
theorem kbn_of {K : PySem.W.Frag} {n : Nat} {ks : List Str} {π : List Nat} (h : ∀ (s : Shared) (us ws : List Value), us.length = n → ws.length = ks.length → BindsTo s fd ⟨us, ks.zip ws⟩ (ps.zip (permL π (us ++ ws)))) :
    KBn K fd ps n ks (fun us ws => permL π (us ++ ws)) (fun vs zs => permL π (vs ++ zs)) := ⟨fun s us ws _ l1 l2 => h s us ws l1 l2, fun r1 r2 => vals_perm r1 r2⟩
theorem sd_callK {π ρ : List Nat} {ks : List Str} {kws : List Keyword} (F : FnD Γ.cfg k x fa fd ps np f) (o : Ord np π ρ) (hb : KBn Γ.cfg.K fd ps (e :: es).length ks (fun us ws => permL π (us ++ ws)) (fun vs zs => permL π (vs ++ zs))) (hn : NoStars (e :: es)) (ha : Sars Γ ((e :: es) ++ kws.map (·.value)) ms)
    (hl : ((e :: es) ++ kws.map (·.value)).length = np := by rfl) (hkl : kws.length = ks.length := by rfl) (hk : k ≤ Γ.n := by exact Nat.le_of_ble_eq_true rfl) (hg : Γ.glo x = true := by kernel_rfl) (hdb : (x == ("__debug__" : Str)) = false := by kernel_rfl)
    (hall : ∀ env : PySem.Env, (backToKw pos (keywordEach kws env)).all (·.1.isSome) = true := by intro _; rfl) (hks : ∀ env : PySem.Env, (backToKw pos (keywordEach kws env)).filterMap (·.1) = ks := by intro _; rfl) (hpl : ∀ env : PySem.Env, (backToKw pos (keywordEach kws env)).any (·.1.isNone) = false := by intro _; rfl) :
    Sd Γ (.Call (.Name x p) (e :: es) kws pos) (mCall (permF π ρ f) ms) := ⟨fun X ok env o' env' hm σ H T hr Q q => by
  obtain ⟨ars, s1, os, s2, o', outs, s3, h1, h2, h3, h4, e1⟩ := mCall_some hm
  injection e1 with e1 e2
  subst e1 e2
  have hplain : ((backTo pos (starEach (e :: es) X.env)).any (·.1) || (backToKw pos (keywordEach kws X.env)).any (·.1.isNone)) = false := by
    rw [backTo_plain hn, hpl X.env]; rfl
  refine ⟨_, peG_callN (n := (e :: es).length) ok.at_ F.ok (ok.room.mono hk) (ok.glo hg) F.at_ F.kp hb (pa_of hn) pk_of (hall X.env) (hks X.env) hdb (ns_head hn _) hplain, ?_⟩
  have w := ha.run X ok env ars s1 h1 σ H T hr (fun vs H' => RS Γ.cfg.K H' s1 σ ((List.zipWith Ar.its ars vs).flatten ++ T) ∧ ars.length = vs.length ∧ (∀ p ∈ ars.zip vs, p.1.at σ p.2)) fun vs H' r l a => ⟨r, l, a⟩
  refine wl_len.wl_mono (wl_len (wl_app w)) fun vs H1 ⟨hv, w1⟩ => ?_
  refine wl_len.wl_mono (wl_len w1) fun zs H2 ⟨hz, r, l, a⟩ => ?_
  have hz' : zs.length = ks.length := by rw [hz, List.length_map]; exact hkl
  refine ⟨hv, hz', ?_⟩
  have hvz : (vs ++ zs).length = np := by rw [← hl, List.length_append, List.length_append, hv, hz]
  have hos : os.length = (vs ++ zs).length := (take_rs h2 l a r).1
  obtain ⟨outs', g1, g2⟩ := permF_some h3
  have g2 : outs = permL ρ outs' := g2
  have l3 : outs'.length = np := F.len _ _ _ g1 ((permL_len (hos.trans hvz) o.lt).trans o.len)
  have l4 : outs.length = np := by rw [g2]; exact (permL_len l3 o.lt').trans o.len'
  exact sp_perm o (fun os r outs => F.len os r outs) (call_read (cfg := Γ.cfg) h2 h3 h4 l a r hvz l4 q)⟩
theorem sd_callK0 {π ρ : List Nat} {ks : List Str} {kws : List Keyword} (F : FnD Γ.cfg k x fa fd ps np f) (o : Ord np π ρ) (hb : KBn Γ.cfg.K fd ps 0 ks (fun us ws => permL π (us ++ ws)) (fun vs zs => permL π (vs ++ zs))) (ha : Sars Γ (kws.map (·.value)) ms)
    (hl : (kws.map (·.value)).length = np := by rfl) (hkl : kws.length = ks.length := by rfl) (hk : k ≤ Γ.n := by exact Nat.le_of_ble_eq_true rfl) (hg : Γ.glo x = true := by kernel_rfl) (hdb : (x == ("__debug__" : Str)) = false := by kernel_rfl)
    (hall : ∀ env : PySem.Env, (backToKw pos (keywordEach kws env)).all (·.1.isSome) = true := by intro _; rfl) (hks : ∀ env : PySem.Env, (backToKw pos (keywordEach kws env)).filterMap (·.1) = ks := by intro _; rfl) (hpl : ∀ env : PySem.Env, (backToKw pos (keywordEach kws env)).any (·.1.isNone) = false := by intro _; rfl) :
    Sd Γ (.Call (.Name x p) [] kws pos) (mCall (permF π ρ f) ms) := ⟨fun X ok env o' env' hm σ H T hr Q q => by
  obtain ⟨ars, s1, os, s2, o', outs, s3, h1, h2, h3, h4, e1⟩ := mCall_some hm
  injection e1 with e1 e2
  subst e1 e2
  have hplain : ((backTo pos (starEach [] X.env)).any (·.1) || (backToKw pos (keywordEach kws X.env)).any (·.1.isNone)) = false := by
    rw [hpl X.env]; rfl
  refine ⟨_, peG_callN0 ok.at_ F.ok (ok.room.mono hk) (ok.glo hg) F.at_ F.kp hb pk_of (hall X.env) (hks X.env) hdb hplain, ?_⟩
  have w := ha.run X ok env ars s1 h1 σ H T hr (fun vs H' => RS Γ.cfg.K H' s1 σ ((List.zipWith Ar.its ars vs).flatten ++ T) ∧ ars.length = vs.length ∧ (∀ p ∈ ars.zip vs, p.1.at σ p.2)) fun vs H' r l a => ⟨r, l, a⟩
  refine wl_len.wl_mono (wl_len w) fun zs H2 ⟨hz, r, l, a⟩ => ?_
  have hz' : zs.length = ks.length := by rw [hz, List.length_map]; exact hkl
  refine ⟨rfl, hz', ?_⟩
  have hvz : zs.length = np := hz.trans hl
  have hos : os.length = zs.length := (take_rs h2 l a r).1
  obtain ⟨outs', g1, g2⟩ := permF_some h3
  have g2 : outs = permL ρ outs' := g2
  have l3 : outs'.length = np := F.len _ _ _ g1 ((permL_len (hos.trans hvz) o.lt).trans o.len)
  have l4 : outs.length = np := by rw [g2]; exact (permL_len l3 o.lt').trans o.len'
  exact sp_perm o (fun os r outs => F.len os r outs) (call_read (cfg := Γ.cfg) h2 h3 h4 l a r hvz l4 q)⟩
end
end BM

set_option Elab.async false
set_option linter.all false
set_option maxRecDepth 100000
set_option maxHeartbeats 4000000
/-! BM, part 10: lists that are changed. -/
namespace BM
open PySem PySem.Spec PyProof.Rows L2

/-! ### the words -/
def mApp (i : Nat) (me : M O) : M O := fun s => match s[i]? with
  | some (some (.lst _)) => (match me s with
    | some (y, s') => (match s'[i]? with
      | some (some (.lst os)) => if os.length < sizeLine then some (.d .non, s'.set i (some (.lst (os ++ [y])))) else none
      | _ => none)
    | none => none)
  | _ => none
def mPop (i : Nat) : M O := fun s => match s[i]? with
  | some (some (.lst os)) => (match os.getLast? with
    | some y => some (y, s.set i (some (.lst os.dropLast)))
    | none => none)
  | _ => none
def mPopAt (i : Nat) (me : M O) : M O := fun s => match s[i]? with
  | some (some (.lst _)) => (match me s with
    | some (.d (.int k), s') => (match s'[i]? with
      | some (some (.lst os)) => (match ixN os.length k with
        | some j => (match os[j]? with
          | some y => some (y, s'.set i (some (.lst (os.eraseIdx j))))
          | none => none)
        | none => none)
      | _ => none)
    | _ => none)
  | _ => none
/-- x[k] = e -/
def sSetIx (i : Nat) (mk me : M O) : M Fl := fun s => match me s with
  | some (y, s1) => (match s1[i]? with
    | some (some (.lst _)) => (match mk s1 with
      | some (.d (.int k), s2) => (match s2[i]? with
        | some (some (.lst os)) => (match ixN os.length k with
          | some j => some (.nx, s2.set i (some (.lst (os.set j y))))
          | none => none)
        | _ => none)
      | _ => none)
    | _ => none)
  | none => none
/-- x[k] of an owned list whose k-th part is plain -/
def mGetP (i : Nat) (k : Int) : M O := fun s => match s[i]? with
  | some (some (.lst os)) => (match ixN os.length k with
    | some j => (match os[j]? with
      | some (.d x) => some (.d x, s)
      | _ => none)
    | none => none)
  | _ => none
/-- the k-th part, itself a list -/
def kidL (k : Int) : Option (Option O) → Option (Nat × List O × List O)
  | some (some (.lst os)) => (match ixN os.length k with
    | some j => (match os[j]? with
      | some (.lst cs) => some (j, os, cs)
      | _ => none)
    | none => none)
  | _ => none
def isInt : D → Bool
  | .int _ => true
  | _ => false
/-- x[k] != [] -/
def tKidNe (i : Nat) (k : Int) : M Bool := fun s => match kidL k s[i]? with
  | some (_, _, cs) => (match O.leafs cs with
    | some ds => if ds.all isInt = true then some (!cs.isEmpty, s) else none
    | none => none)
  | none => none
/-- x[k].pop() -/
def mKidPop (i : Nat) (k : Int) : M O := fun s => match kidL k s[i]? with
  | some (j, os, cs) => (match cs.getLast? with
    | some y => some (y, s.set i (some (.lst (os.set j (.lst cs.dropLast)))))
    | none => none)
  | none => none
/-- x[k].append(e) -/
def mKidApp (i : Nat) (k : Int) (me : M O) : M O := fun s => match kidL k s[i]? with
  | some (j, os, cs) => (match me (s.set i none) with
    | some (y, s') => if cs.length < sizeLine ∧ i < s'.length then some (.d .non, s'.set i (some (.lst (os.set j (.lst (cs ++ [y])))))) else none
    | none => none)
  | none => none

/-! ### lemmas -/
section
variable {K : PySem.W.Frag} {H : Hp} {L : List It}
theorem reps_split : ∀ {os : List O} {vs : List V} {j : Nat} {c : O}, os.length = vs.length → os[j]? = some c → ∃ v1, vs[j]? = some v1 ∧ (reps os vs).Perm (.rep c v1 :: reps (os.eraseIdx j) (vs.eraseIdx j)) ∧ ∀ c' : O, (reps (os.set j c') vs).Perm (.rep c' v1 :: reps (os.eraseIdx j) (vs.eraseIdx j))
  | o :: os, v :: vs, 0, c, _, h => by
    have e : o = c := Option.some.inj h
    subst e
    exact ⟨v, rfl, .refl _, fun c' => .refl _⟩
  | o :: os, v :: vs, j + 1, c, hl, h => by
    obtain ⟨v1, h1, h2, h3⟩ := reps_split (os := os) (vs := vs) (j := j) (c := c) (by simpa using hl) (by simpa using h)
    exact ⟨v1, by simpa using h1, (h2.cons _).trans (.swap _ _ _), fun c' => ((h3 c').cons _).trans (.swap _ _ _)⟩
  | [], _, _, _, _, h => by simp at h
  | _ :: _, [], _, _, hl, _ => by cases hl
/-- one part of an owned list taken out, to be put back changed -/
theorem St.kid {os : List O} {v : V} {j : Nat} {c : O} (h : St K H (.rep (.lst os) v :: L)) (hj : os[j]? = some c) :
    ∃ a vs v1 C, v = .ref a ∧ H a = some (.lst vs) ∧ os.length = vs.length ∧ vs[j]? = some v1 ∧ St K H (.rep c v1 :: (C ++ L)) ∧ ∀ H' c' R, St K H' (.rep c' v1 :: (C ++ R)) → St K H' (.rep (.lst (os.set j c')) v :: R) := by
  obtain ⟨a, vs, e1, hl, h2⟩ := h.open_lst
  subst e1
  obtain ⟨v1, g1, g2, g3⟩ := reps_split hl hj
  refine ⟨a, vs, v1, .raw a (.lst vs) :: reps (os.eraseIdx j) (vs.eraseIdx j), rfl, h2.raw_at, hl, g1, ?_, fun H' c' R h' => ?_⟩
  · refine h2.perm ?_
    refine ((g2.append_right L).cons _).trans ?_
    exact .swap _ _ _
  · refine St.close_lst (by rw [List.length_set]; exact hl) (h'.perm ?_)
    refine .trans ?_ (((g3 c').symm.append_right R).cons _)
    exact .swap _ _ _
theorem ixN_lt {n : Nat} {k : Int} {j : Nat} (h : ixN n k = some j) : j < n := (ixN_seq h).2.1
theorem ixN_bounds {n : Nat} {k : Int} {j : Nat} (h : ixN n k = some j) : -(n : Int) ≤ k ∧ k < n := (ixN_seq h).2.2
theorem atI_of {xs : List V} {n : Nat} {k : Int} {j : Nat} {v : V} (hn : xs.length = n) (h : ixN n k = some j) (e : xs[j]? = some v) : atI xs k = some v := by
  unfold atI
  rw [hn, h]; exact e
end
section
variable {Γ : Gm} {e : Expr} {p pos apos p1 p2 : Pos} {x : Str} {i : Nat}
theorem list_len_le {K : PySem.W.Frag} {H : Hp} {a : Addr} {xs : List V} {X : Cx} {pins : List (Addr × Obj)} {σ : L2.St} {s : Shared} (I : Inv X pins σ H s) (h : H a = some (.lst xs)) : xs.length ≤ sizeLine := (I.lstM h).1
theorem ty_list {K : PySem.W.Frag} {H : Hp} {a : Addr} {xs : List V} (h : H a = some (.lst xs)) : tyV K "list" (.ref a) H := .inl ⟨rfl, xs, .inl (.inl h)⟩
theorem slot_lst {K : PySem.W.Frag} {H : Hp} {env : Env} {σ : L2.St} {T : List It} {os : List O} (r : RS K H env σ T) (h : env[i]? = some (some (.lst os))) : ∃ a vs, σ[i]? = some (some (.ref a)) ∧ H a = some (.lst vs) ∧ os.length = vs.length := by
  obtain ⟨v, h1, L, hE, hS⟩ := r.take h
  obtain ⟨a, vs, e1, hl, h2⟩ := St.open_lst hS
  subst e1
  exact ⟨a, vs, h1, h2.raw_at, hl⟩
theorem sd_app {me : M O} (i : Nat) (he : Sd Γ e me) (hns : ∀ env : PySem.Env, starEach [e] env = (false, eval e env) :: starEach [] env := by intro _; rfl) (hN : Γ.N[i]? = some x := by rfl) (hv : Γ.vis x = true := by kernel_rfl)
    (hbase : ∀ env : PySem.Env, attributeBase (.Name x p) "append" env (eval (.Name x p) env) = eval (.Name x p) env := by intro _; rfl)
    (hfew : ∀ env : PySem.Env, ((backTo pos (starEach [e] env)).all (fun x => !x.1) && (backToKw pos (keywordEach [] env)).all (fun x => x.1.isSome) && decide ([e].length + ([] : List Keyword).length + (if ([] : List Keyword).isEmpty then 0 else 1) < 30)) = true := by intro _; rfl)
    (hline : (apos.endLine == pos.line) = true := by rfl)
    (hd : (x == ("__debug__" : Str)) = false := by kernel_rfl) (hcd : (x == ("__classdict__" : Str)) = false := by kernel_rfl) : Sd Γ (.Call (.Attribute (.Name x p) "append" apos) [e] [] pos) (mApp i me) := ⟨fun X ok env o env' hm σ H T hr Q q => by
  unfold mApp at hm
  split at hm
  · rename_i os0 q0
    split at hm
    · rename_i y s' q1
      split at hm
      · rename_i os q2
        by_cases hl : os.length < sizeLine
        · rw [if_pos hl] at hm
          have e1 := Option.some.inj hm
          injection e1 with e1 e2
          subst e1 e2
          have hn : NoStars [e] := ns_cons ns_nil hns
          refine ⟨_, pe_bm (T := "list") PySem.F.plainAttrs_list PySem.F.slot_list_append PySem.F.type_list_append (mt_append (X := X)) (pe_var (i := i) (by rw [ok.hN]; exact hN) (ok.vis hv) hd hcd) (pa_of hn) (hbase X.env) (hfew X.env) hline (hns X.env) (backTo_plain ns_nil), ?_⟩
          obtain ⟨a, vs, h1, h2, h3⟩ := slot_lst hr q0
          refine ⟨.ref a, h1, ty_list h2, ?_⟩
          refine he.run X ok env y s' q1 σ H T hr _ fun w H1 r1 => ?_
          obtain ⟨v', g1, g2⟩ := r1.take q2
          rw [h1] at g1
          have e := Option.some.inj (Option.some.inj g1)
          subst e
          obtain ⟨acc, f1, f2, f3⟩ := append_rs (g2.perm (.swap _ _ _))
          refine ⟨a, acc, w, rfl, rfl, f1, by rw [f2]; exact hl, q .non _ ?_⟩
          have f4 := f3.putSame h1
          rw [List.set_set] at f4
          exact f4.lift fun L h => h.flat rfl
        · rw [if_neg hl] at hm; cases hm
      · cases hm
    · cases hm
  · cases hm⟩
theorem pop_rs {K : PySem.W.Frag} {H : Hp} {env : Env} {σ : L2.St} {T : List It} {os : List O} {Dl : Addr} {j : Nat} {y : O} (hj : os[j]? = some y) (h : RS K H env σ (.rep (.lst os) (.ref Dl) :: T)) :
    ∃ acc w, H Dl = some (.lst acc) ∧ acc.length = os.length ∧ acc[j]? = some w ∧ RS K (upd H Dl (.lst (acc.eraseIdx j))) env σ (.rep y w :: .rep (.lst (os.eraseIdx j)) (.ref Dl) :: T) := by
  obtain ⟨L, hE, hS⟩ := h
  obtain ⟨a, vs, e1, hl, h2⟩ := St.open_lst (L := T ++ L) hS
  cases e1
  obtain ⟨w, g1, g2, g3⟩ := reps_split hl hj
  refine ⟨vs, w, h2.raw_at, hl.symm, g1, L, hE, ?_⟩
  have h3 := h2.write (u' := .lst (vs.eraseIdx j))
  have h4 : St K (upd H Dl (.lst (vs.eraseIdx j))) (.raw Dl (.lst (vs.eraseIdx j)) :: (reps (os.eraseIdx j) (vs.eraseIdx j) ++ (.rep y w :: (T ++ L)))) := by
    refine h3.perm (.cons _ ?_)
    exact (g2.append_right _).trans List.perm_middle.symm
  have hlj : j < os.length := (List.getElem?_eq_some_iff.mp hj).1
  have h5 := St.close_lst (by
    rw [List.length_eraseIdx, List.length_eraseIdx, hl]) h4
  exact h5.perm (.swap _ _ _)
theorem last_erase {α : Type} (l : List α) : l.eraseIdx (l.length - 1) = l.dropLast := by
  exact PyProof.Rows.Copied.eraseIdx_last l
theorem getLast_get {α : Type} {l : List α} {y : α} (h : l.getLast? = some y) : l[l.length - 1]? = some y := by
  rw [List.getLast?_eq_getElem?] at h; exact h
theorem sd_pop (i : Nat) (hN : Γ.N[i]? = some x := by rfl) (hv : Γ.vis x = true := by kernel_rfl)
    (hbase : ∀ env : PySem.Env, attributeBase (.Name x p) "pop" env (eval (.Name x p) env) = eval (.Name x p) env := by intro _; rfl)
    (hline : (apos.endLine == pos.line) = true := by rfl)
    (hd : (x == ("__debug__" : Str)) = false := by kernel_rfl) (hcd : (x == ("__classdict__" : Str)) = false := by kernel_rfl) : Sd Γ (.Call (.Attribute (.Name x p) "pop" apos) [] [] pos) (mPop i) := ⟨fun X ok env o env' hm σ H T hr Q q => by
  unfold mPop at hm
  split at hm
  · rename_i os q0
    split at hm
    · rename_i y q1
      have e1 := Option.some.inj hm
      injection e1 with e1 e2
      subst e1 e2
      refine ⟨_, pe_bm0 (T := "list") PySem.F.plainAttrs_list PySem.F.slot_list_pop PySem.F.type_list_pop (mt_pop (X := X)) (pe_var (i := i) (by rw [ok.hN]; exact hN) (ok.vis hv) hd hcd) (hbase X.env) hline, ?_⟩
      obtain ⟨a, vs, h1, h2, h3⟩ := slot_lst hr q0
      refine ⟨.ref a, h1, ty_list h2, ?_⟩
      obtain ⟨v', g1, g2⟩ := hr.take q0
      rw [h1] at g1
      have e := Option.some.inj (Option.some.inj g1)
      subst e
      obtain ⟨acc, w, f1, f2, f3, f4⟩ := pop_rs (getLast_get q1) g2
      rw [← f2, last_erase] at f4
      rw [f2, last_erase] at f4
      rw [← f2] at f3
      refine ⟨a, acc, w, rfl, rfl, f1, f3, q w _ ?_⟩
      have f5 := (f4.perm (.swap _ _ _)).putSame h1
      rw [List.set_set] at f5
      exact f5
    · cases hm
  · cases hm⟩
theorem sd_popAt {me : M O} (i : Nat) (he : Sd Γ e me) (hns : ∀ env : PySem.Env, starEach [e] env = (false, eval e env) :: starEach [] env := by intro _; rfl) (hN : Γ.N[i]? = some x := by rfl) (hv : Γ.vis x = true := by kernel_rfl)
    (hbase : ∀ env : PySem.Env, attributeBase (.Name x p) "pop" env (eval (.Name x p) env) = eval (.Name x p) env := by intro _; rfl)
    (hfew : ∀ env : PySem.Env, ((backTo pos (starEach [e] env)).all (fun x => !x.1) && (backToKw pos (keywordEach [] env)).all (fun x => x.1.isSome) && decide ([e].length + ([] : List Keyword).length + (if ([] : List Keyword).isEmpty then 0 else 1) < 30)) = true := by intro _; rfl)
    (hline : (apos.endLine == pos.line) = true := by rfl)
    (hd : (x == ("__debug__" : Str)) = false := by kernel_rfl) (hcd : (x == ("__classdict__" : Str)) = false := by kernel_rfl) : Sd Γ (.Call (.Attribute (.Name x p) "pop" apos) [e] [] pos) (mPopAt i me) := ⟨fun X ok env o env' hm σ H T hr Q q => by
  unfold mPopAt at hm
  split at hm
  · rename_i os0 q0
    split at hm
    · rename_i k s' q1
      split at hm
      · rename_i os q2
        split at hm
        · rename_i j q3
          split at hm
          · rename_i y q4
            have e1 := Option.some.inj hm
            injection e1 with e1 e2
            subst e1 e2
            have hn : NoStars [e] := ns_cons ns_nil hns
            refine (?_ : WE X _ σ H Q)
            have key : PE X (.Call (.Attribute (.Name x p) "pop" apos) [e] [] pos) (tBM X.K "list" rPopAt (tVar i) (fun σ H Q => WL X [e] σ H Q)) := pe_bm (T := "list") PySem.F.plainAttrs_list PySem.F.slot_list_pop PySem.F.type_list_pop (mt_popAt (X := X)) (pe_var (i := i) (by rw [ok.hN]; exact hN) (ok.vis hv) hd hcd) (pa_of hn) (hbase X.env) (hfew X.env) hline (hns X.env) (backTo_plain ns_nil)
            -- the list's length is below the line: known to the state
            refine ⟨fun σ1 H1 R => tBM X.K "list" (fun x vs H Q => (∀ (a : Addr) (xs : List V), x = .ref a → H a = some (.lst xs) → xs.length ≤ sizeLine) → rPopAt x vs H Q) (tVar i) (fun σ H Q => WL X [e] σ H Q) σ1 H1 R, ?_, ?_⟩
            · refine pe_bm (T := "list") PySem.F.plainAttrs_list PySem.F.slot_list_pop PySem.F.type_list_pop (r := fun x vs H Q => (∀ (a : Addr) (xs : List V), x = .ref a → H a = some (.lst xs) → xs.length ≤ sizeLine) → rPopAt x vs H Q) ?_ (pe_var (i := i) (by rw [ok.hN]; exact hN) (ok.vis hv) hd hcd) (pa_of hn) (hbase X.env) (hfew X.env) hline (hns X.env) (backTo_plain ns_nil)
              intro pins s σ H x vs v us Q I rx rv h
              exact mt_popAt pins s σ H x vs v us Q I rx rv (h fun a xs e h => (I.lstM h).1)
            · obtain ⟨a, vs, h1, h2, h3⟩ := slot_lst hr q0
              refine ⟨.ref a, h1, ty_list h2, ?_⟩
              refine he.run X ok env _ s' q1 σ H T hr _ fun w H1 r1 => ?_
              have ew : w = .int k := by
                obtain ⟨L, _, hS⟩ := r1
                exact hS.intv
              subst ew
              intro hsz
              obtain ⟨v', g1, g2⟩ := r1.drop.take q2
              rw [h1] at g1
              have e := Option.some.inj (Option.some.inj g1)
              subst e
              obtain ⟨acc, w, f1, f2, f3, f4⟩ := pop_rs q4 g2
              have hz := hsz a acc rfl f1
              have hl := line63
              obtain ⟨b1, b2⟩ := ixN_bounds q3
              refine ⟨a, acc, k, j, w, rfl, rfl, f1, by omega, by omega, ?_, f3, q w _ ?_⟩
              · rw [f2]; exact (ixN_seq q3).1
              · have f5 := (f4.perm (.swap _ _ _)).putSame h1
                rw [List.set_set] at f5
                exact f5
          · cases hm
        · cases hm
      · cases hm
    · cases hm
  · cases hm⟩
/-- a part of an owned list that is plain -/
theorem sd_getP (i : Nat) {k : Int} {b : Expr} (hb : Sd Γ b (mC (.int k))) (hs : PlainIx b := by exact fun _ _ => rfl) (hN : Γ.N[i]? = some x := by rfl) (hv : Γ.vis x = true := by kernel_rfl) (hd : (x == ("__debug__" : Str)) = false := by kernel_rfl) (hcd : (x == ("__classdict__" : Str)) = false := by kernel_rfl) :
    Sd Γ (.Subscript (.Name x p) b pos) (mGetP i k) := ⟨fun X ok env o env' hm σ H T hr Q q => by
  unfold mGetP at hm
  split at hm
  · rename_i os q0
    split at hm
    · rename_i j q1
      split at hm
      · rename_i y q2
        have e1 := Option.some.inj hm
        injection e1 with e1 e2
        subst e1 e2
        refine ⟨_, pe_ix (ix_list (X := X)) (pe_var (i := i) (by rw [ok.hN]; exact hN) (ok.vis hv) hd hcd) (pe_best X b) hs, ?_⟩
        obtain ⟨v, h1, r1⟩ := hr.take q0
        refine ⟨v, h1, ?_⟩
        refine hb.run X ok env (.d (.int k)) env rfl σ H T hr _ fun w H1 r2 => ?_
        have ew : w = .int k := by
          obtain ⟨L, _, hS⟩ := r2
          exact hS.intv
        subst ew
        obtain ⟨v', h1', L, hE, hS⟩ := r2.drop.take q0
        rw [h1] at h1'
        have e := Option.some.inj (Option.some.inj h1')
        subst e
        obtain ⟨a, vs, v1, C, g1, g2, g3, g4, g5, g6⟩ := St.kid hS q2
        subst g1
        refine ⟨a, vs, k, v1, rfl, rfl, .inl (.inl g2), atI_of g3.symm q1 g4, q v1 H1 ?_⟩
        have g7 := g5.dup
        have g8 := g6 H1 (.d y) (.rep (.d y) v1 :: (T ++ L)) (g7.perm (by
          refine .cons _ ?_
          exact List.perm_middle.symm))
        rw [show os.set j (.d y) = os by
          obtain ⟨z1, z2⟩ := List.getElem?_eq_some_iff.mp q2
          rw [← z2]; exact List.set_getElem_self z1] at g8
        have r3 : RS Γ.cfg.K H1 (env.set i none) σ (.rep (.lst os) (.ref a) :: .rep (.d y) v1 :: T) := ⟨L, hE, g8⟩
        have r4 := r3.putSame h1
        rw [List.set_set] at r4
        rw [show env.set i (some (.lst os)) = env by
          obtain ⟨z1, z2⟩ := List.getElem?_eq_some_iff.mp q0
          rw [← z2]; exact List.set_getElem_self z1] at r4
        exact r4
      · cases hm
    · cases hm
  · cases hm⟩
theorem kidL_some {k : Int} {y : Option (Option O)} {r : Nat × List O × List O} (h : kidL k y = some r) : y = some (some (.lst r.2.1)) ∧ ixN r.2.1.length k = some r.1 ∧ r.2.1[r.1]? = some (.lst r.2.2) := by
  unfold kidL at h
  split at h
  · rename_i os
    split at h
    · rename_i j q1
      split at h
      · rename_i cs q2
        have e := Option.some.inj h
        subst e
        exact ⟨rfl, q1, q2⟩
      · cases h
    · cases h
  · cases h
/-- the reading of x[k], its part a list at v1; what is held is opened -/
theorem kid_read {X : Cx} (ok : Γ.Ok X) {k : Int} {b : Expr} (hb : Sd Γ b (mC (.int k))) (hs : PlainIx b) (hN : Γ.N[i]? = some x) (hv : Γ.vis x = true) (hd : (x == ("__debug__" : Str)) = false) (hcd : (x == ("__classdict__" : Str)) = false)
    {env : Env} {j : Nat} {os cs : List O} (hk : kidL k env[i]? = some (j, os, cs)) {σ : L2.St} {H : Hp} {T : List It} (hr : RS Γ.cfg.K H env σ T) {Q : VK}
    (q : ∀ (a a1 : Addr) (C : List It) H1, σ[i]? = some (some (.ref a)) → RS Γ.cfg.K H1 (env.set i none) σ (.rep (.lst cs) (.ref a1) :: (C ++ T)) → (∀ H' c' R, St Γ.cfg.K H' (.rep c' (.ref a1) :: (C ++ R)) → St Γ.cfg.K H' (.rep (.lst (os.set j c')) (.ref a) :: R)) → Q (.ref a1) H1) :
    WE X (.Subscript (.Name x p) b pos) σ H Q := by
  obtain ⟨q0, q1, q2⟩ := kidL_some hk
  have q0 : env[i]? = some (some (.lst os)) := q0
  have q1 : ixN os.length k = some j := q1
  have q2 : os[j]? = some (.lst cs) := q2
  refine ⟨_, pe_ix (ix_list (X := X)) (pe_var (i := i) (by rw [ok.hN]; exact hN) (ok.vis hv) hd hcd) (pe_best X b) hs, ?_⟩
  obtain ⟨v, h1, r1⟩ := hr.take q0
  refine ⟨v, h1, ?_⟩
  refine hb.run X ok env (.d (.int k)) env rfl σ H T hr _ fun w H1 r2 => ?_
  have ew : w = .int k := by
    obtain ⟨L, _, hS⟩ := r2
    exact hS.intv
  subst ew
  obtain ⟨v', h1', L, hE, hS⟩ := r2.drop.take q0
  rw [h1] at h1'
  have e := Option.some.inj (Option.some.inj h1')
  subst e
  obtain ⟨a, vs, v1, C, g1, g2, g3, g4, g5, g6⟩ := St.kid (L := T ++ L) hS q2
  subst g1
  obtain ⟨a1, ws, e1, hl, h2⟩ := g5.open_lst
  subst e1
  refine ⟨a, vs, k, .ref a1, rfl, rfl, .inl (.inl g2), atI_of g3.symm q1 g4, q a a1 C H1 h1 ⟨L, hE, by
    show St Γ.cfg.K H1 (.rep (.lst cs) (.ref a1) :: (C ++ T ++ L))
    rw [List.append_assoc]; exact g5⟩ fun H' c' R h' => g6 H' c' R h'⟩
theorem kid_back {K : PySem.W.Frag} {H : Hp} {env : Env} {σ : L2.St} {T C : List It} {a a1 : Addr} {os : List O} {j : Nat} {c' : O} (h : RS K H env σ (.rep c' (.ref a1) :: (C ++ T))) (g : ∀ H' c' R, St K H' (.rep c' (.ref a1) :: (C ++ R)) → St K H' (.rep (.lst (os.set j c')) (.ref a) :: R))
    (hs : σ[i]? = some (some (.ref a))) : RS K H (env.set i (some (.lst (os.set j c')))) σ T := by
  have r : RS K H env σ (.rep (.lst (os.set j c')) (.ref a) :: T) := h.lift fun L hS => g H c' (T ++ L) (by
    have z : St K H (.rep c' (.ref a1) :: (C ++ T ++ L)) := hS
    rw [List.append_assoc] at z
    exact z)
  exact r.putSame hs
theorem sd_kidPop (i : Nat) {k : Int} {b : Expr} (hb : Sd Γ b (mC (.int k))) (hs : PlainIx b := by exact fun _ _ => rfl) (hN : Γ.N[i]? = some x := by rfl) (hv : Γ.vis x = true := by kernel_rfl)
    (hbase : ∀ env : PySem.Env, attributeBase (.Subscript (.Name x p) b p1) "pop" env (eval (.Subscript (.Name x p) b p1) env) = eval (.Subscript (.Name x p) b p1) env := by intro _; rfl) (hline : (apos.endLine == pos.line) = true := by rfl)
    (hd : (x == ("__debug__" : Str)) = false := by kernel_rfl) (hcd : (x == ("__classdict__" : Str)) = false := by kernel_rfl) : Sd Γ (.Call (.Attribute (.Subscript (.Name x p) b p1) "pop" apos) [] [] pos) (mKidPop i k) := ⟨fun X ok env o env' hm σ H T hr Q q => by
  unfold mKidPop at hm
  split at hm
  · rename_i j os cs q0
    split at hm
    · rename_i y q1
      have e1 := Option.some.inj hm
      injection e1 with e1 e2
      subst e1 e2
      refine ⟨_, pe_bm0 (T := "list") PySem.F.plainAttrs_list PySem.F.slot_list_pop PySem.F.type_list_pop (mt_pop (X := X)) (pe_best X _) (hbase X.env) hline, ?_⟩
      refine kid_read ok hb hs hN hv hd hcd q0 hr fun a a1 C H1 h1 r1 g => ?_
      obtain ⟨acc, w, f1, f2, f3, f4⟩ := pop_rs (getLast_get q1) r1
      rw [← f2, last_erase] at f4
      rw [f2, last_erase] at f4
      rw [← f2] at f3
      refine ⟨ty_list f1, a1, acc, w, rfl, rfl, f1, f3, q w _ ?_⟩
      have f5 := kid_back (i := i) (T := .rep y w :: T) (f4.perm (by
        refine (List.Perm.swap _ _ _).trans (.cons _ ?_)
        exact List.perm_middle.symm)) g h1
      rw [List.set_set] at f5
      exact f5
    · cases hm
  · cases hm⟩
theorem sd_kidApp (i : Nat) {k : Int} {b : Expr} {me : M O} (hb : Sd Γ b (mC (.int k))) (he : Sd Γ e me) (hns : ∀ env : PySem.Env, starEach [e] env = (false, eval e env) :: starEach [] env := by intro _; rfl) (hs : PlainIx b := by exact fun _ _ => rfl) (hN : Γ.N[i]? = some x := by rfl) (hv : Γ.vis x = true := by kernel_rfl)
    (hbase : ∀ env : PySem.Env, attributeBase (.Subscript (.Name x p) b p1) "append" env (eval (.Subscript (.Name x p) b p1) env) = eval (.Subscript (.Name x p) b p1) env := by intro _; rfl)
    (hfew : ∀ env : PySem.Env, ((backTo pos (starEach [e] env)).all (fun x => !x.1) && (backToKw pos (keywordEach [] env)).all (fun x => x.1.isSome) && decide ([e].length + ([] : List Keyword).length + (if ([] : List Keyword).isEmpty then 0 else 1) < 30)) = true := by intro _; rfl)
    (hline : (apos.endLine == pos.line) = true := by rfl)
    (hd : (x == ("__debug__" : Str)) = false := by kernel_rfl) (hcd : (x == ("__classdict__" : Str)) = false := by kernel_rfl) : Sd Γ (.Call (.Attribute (.Subscript (.Name x p) b p1) "append" apos) [e] [] pos) (mKidApp i k me) := ⟨fun X ok env o env' hm σ H T hr Q q => by
  unfold mKidApp at hm
  split at hm
  · rename_i j os cs q0
    split at hm
    · rename_i y s' q1
      by_cases hl : cs.length < sizeLine ∧ i < s'.length
      · rw [if_pos hl] at hm
        have e1 := Option.some.inj hm
        injection e1 with e1 e2
        subst e1 e2
        have hn : NoStars [e] := ns_cons ns_nil hns
        refine ⟨_, pe_bm (T := "list") PySem.F.plainAttrs_list PySem.F.slot_list_append PySem.F.type_list_append (mt_append (X := X)) (pe_best X _) (pa_of hn) (hbase X.env) (hfew X.env) hline (hns X.env) (backTo_plain ns_nil), ?_⟩
        refine kid_read ok hb hs hN hv hd hcd q0 hr fun a a1 C H1 h1 r1 g => ?_
        have hty : ∃ xs, H1 a1 = some (.lst xs) := by
          obtain ⟨L, _, hS⟩ := r1
          obtain ⟨a', ws, e1, _, h2⟩ := St.open_lst hS
          cases e1
          exact ⟨ws, h2.raw_at⟩
        obtain ⟨xs, hty⟩ := hty
        refine ⟨ty_list hty, ?_⟩
        refine he.run X ok _ y s' q1 σ H1 _ r1 _ fun w H2 r2 => ?_
        obtain ⟨acc, f1, f2, f3⟩ := append_rs r2
        refine ⟨a1, acc, w, rfl, rfl, f1, by rw [f2]; exact hl.1, q .non _ ?_⟩
        have f5 := kid_back (i := i) f3 g h1
        exact f5.lift fun L h => h.flat rfl
      · rw [if_neg hl] at hm; cases hm
    · cases hm
  · cases hm⟩
end
end BM

set_option Elab.async false
set_option linter.all false
set_option maxRecDepth 100000
set_option maxHeartbeats 4000000
/-! BM, part 11: x[k] = e, parallel assignment, comprehensions with two fors. -/
namespace BM
open PySem PySem.Spec PyProof.Rows L2

/-! ### x[k] = e -/
section
variable {Γ : Gm} {e b : Expr} {p p1 pos : Pos} {x : Str} {i : Nat}
theorem setix_some {mk me : M O} {env : Env} {r : Fl × Env} (h : sSetIx i mk me env = some r) : ∃ y s1 k s2 os0 os j, me env = some (y, s1) ∧ s1[i]? = some (some (.lst os0)) ∧ mk s1 = some (.d (.int k), s2) ∧ s2[i]? = some (some (.lst os)) ∧ ixN os.length k = some j ∧ r = (.nx, s2.set i (some (.lst (os.set j y)))) := by
  unfold sSetIx at h
  split at h
  · rename_i y s1 h1
    split at h
    · rename_i os0 q0
      split at h
      · rename_i k s2 h2
        split at h
        · rename_i os q1
          split at h
          · rename_i j q2
            exact ⟨y, s1, k, s2, os0, os, j, h1, q0, h2, q1, q2, (Option.some.inj h).symm⟩
          · cases h
        · cases h
      · cases h
    · cases h
  · cases h
theorem reps_set {o : O} {v : V} : ∀ {os : List O} {vs : List V} {j : Nat}, os.length = vs.length → j < os.length → ∃ T, (reps (os.set j o) (vs.set j v)).Perm (.rep o v :: T) ∧ T.Sublist (reps os vs)
  | a :: os, u :: vs, 0, _, _ => ⟨reps os vs, .refl _, .cons _ (.refl _)⟩
  | a :: os, u :: vs, j + 1, hl, hj => by
    obtain ⟨T, h1, h2⟩ := reps_set (o := o) (v := v) (os := os) (vs := vs) (j := j) (by simpa using hl) (by simpa using hj)
    refine ⟨.rep a u :: T, (h1.cons _).trans (.swap _ _ _), .cons₂ _ h2⟩
  | [], _, _, _, h => absurd h (Nat.not_lt_zero _)
  | _ :: _, [], _, hl, _ => by cases hl
theorem set_rs {K : PySem.W.Frag} {H : Hp} {env : Env} {σ : L2.St} {T : List It} {os : List O} {a : Addr} {j : Nat} {y : O} {w : V} (hj : j < os.length) (h : RS K H env σ (.rep (.lst os) (.ref a) :: .rep y w :: T)) :
    ∃ vs, H a = some (.lst vs) ∧ vs.length = os.length ∧ RS K (upd H a (.lst (vs.set j w))) env σ (.rep (.lst (os.set j y)) (.ref a) :: T) := by
  obtain ⟨L, hE, hS⟩ := h
  obtain ⟨a', vs, e1, hl, h2⟩ := St.open_lst (L := .rep y w :: (T ++ L)) hS
  cases e1
  refine ⟨vs, h2.raw_at, hl.symm, L, hE, ?_⟩
  have h3 := h2.write (u' := .lst (vs.set j w))
  show St K _ (.rep (.lst (os.set j y)) (.ref a) :: (T ++ L))
  refine St.close_lst (os := os.set j y) (vs := vs.set j w) (by rw [List.length_set, List.length_set, hl]) ?_
  obtain ⟨R, p1, p2⟩ := reps_set (o := y) (v := w) hl hj
  refine (fun z => St.perm (.cons _ (p1.symm.append_right _)) z) ?_
  refine St.sub (.cons₂ _ ?_) (h3.perm (.cons _ List.perm_middle))
  exact .cons₂ _ (p2.append_right _)
theorem ss_setIx {mk me : M O} (i : Nat) (he : Sd Γ e me) (hb : Sd Γ b mk) (hN : Γ.N[i]? = some x := by rfl) (hv : Γ.vis x = true := by kernel_rfl)
    (ha : ∀ (env : PySem.Env) (v : Value), assign (.Subscript (.Name x p) b p1) env v = (do
      let ov ← holding [v] (eval (.Name x p) env)
      let iv ← holding [v, ov] (eval b env)
      standAt p1
      holding [v, ov, iv] (setItem ov iv v)
      release [v, ov, iv] []) := by intro _ _; rfl)
    (hs : ∀ env : PySem.Env, env.scope.names = Γ.sc → swapsWithSole [.Subscript (.Name x p) b p1] e pos.line env = pure false := by intro _ _; rfl) (hw : ∀ env : PySem.Env, env.scope.names = Γ.sc → swappedStores [.Subscript (.Name x p) b p1] e env = pure none := by intro _ _; rfl)
    (haE : ∀ env : PySem.Env, (assignEach [.Subscript (.Name x p) b p1] env).map (·.2) = [assign (.Subscript (.Name x p) b p1) env] := by intro _; rfl)
    (hd : (x == ("__debug__" : Str)) = false := by kernel_rfl) (hcd : (x == ("__classdict__" : Str)) = false := by kernel_rfl) : Ss Γ (.Assign [.Subscript (.Name x p) b p1] e pos) (sSetIx i mk me) [] := ⟨fun X ok env fl env' hm σ H T hr D q => by
  obtain ⟨y, s1, k, s2, os0, os, j, h1, h0, h2, h3, h4, e1⟩ := setix_some hm
  injection e1 with e1 e2
  subst e1 e2
  refine ⟨_, ps_asg (pe_best X e) (pg_sub (pe_var (i := i) (by rw [ok.hN]; exact hN) (ok.vis hv) hd hcd) (pe_best X b) set_list (ha X.env)) (hs X.env ok.hsc) (hw X.env ok.hsc) (haE X.env), ?_⟩
  refine he.run X ok env y s1 h1 σ H T hr _ fun w H1 r1 => ?_
  obtain ⟨a, vs0, g1, g2, g3⟩ := slot_lst r1 h0
  refine ⟨.ref a, g1, ?_⟩
  refine hb.run X ok s1 _ s2 h2 σ H1 _ r1 _ fun z H2 r2 => ?_
  have ez : z = .int k := by
    obtain ⟨L, _, hS⟩ := r2
    exact hS.intv
  subst ez
  obtain ⟨v', g4, r3⟩ := r2.drop.take h3
  rw [g1] at g4
  have e := Option.some.inj (Option.some.inj g4)
  subst e
  obtain ⟨vs, f1, f2, f3⟩ := set_rs (ixN_lt h4) r3
  refine ⟨a, vs, k, j, rfl, rfl, f1, by rw [f2]; exact h4, q σ _ ?_ (Kp.refl _ _)⟩
  have f4 := f3.putSame g1
  rw [List.set_set] at f4
  exact f4⟩
end
/-! ### what == looks at -/
mutual
def D.py : D → Option PyData
  | .non => some .none
  | .bl b => some (.bool b)
  | .int i => some (.int i)
  | .str x => some (.str x)
  | .tup l => match D.pys l with
    | some r => some (.tuple r)
    | none => none
  | .lst l => match D.pys l with
    | some r => some (.list r)
    | none => none
  | _ => none
def D.pys : List D → Option (List PyData)
  | [] => some []
  | d :: r => match D.py d, D.pys r with
    | some a, some b => some (a :: b)
    | _, _ => none
end
section
variable {K : PySem.W.Frag} {H : Hp}
mutual
theorem rep_dp : ∀ {d : D} {v : V} {p : PyData}, Rep K H d v → D.py d = some p → Dp K H v p
  | .non, v, p, r, h => by
    rw [D.py] at h; cases h; rw [Rep] at r; subst r; exact .non
  | .bl b, v, p, r, h => by
    rw [D.py] at h; cases h; rw [Rep] at r; subst r; exact .bl b
  | .int b, v, p, r, h => by
    rw [D.py] at h; cases h; rw [Rep] at r; subst r; exact .int b
  | .str b, v, p, r, h => by
    rw [D.py] at h; cases h; rw [Rep] at r; subst r; exact .str b
  | .tup l, v, p, r, h => by
    rw [D.py] at h
    cases q : D.pys l with
    | none => rw [q] at h; cases h
    | some m =>
      rw [q] at h; cases h
      rw [Rep] at r
      obtain ⟨a, vs, e, h1, h2⟩ := r
      subst e
      exact .tup h1 (reps_dp h2 q)
  | .lst l, v, p, r, h => by
    rw [D.py] at h
    cases q : D.pys l with
    | none => rw [q] at h; cases h
    | some m =>
      rw [q] at h; cases h
      rw [Rep] at r
      obtain ⟨a, vs, e, h1, h2⟩ := r
      subst e
      exact .lst h1 (reps_dp h2 q)
  | .dct l, v, p, r, h => by simp [D.py] at h
  | .obj _ _ l, v, p, r, h => by simp [D.py] at h
theorem reps_dp : ∀ {ds : List D} {vs : List V} {ps : List PyData}, Reps K H ds vs → D.pys ds = some ps → DpAll K H vs ps
  | [], vs, ps, r, h => by
    rw [D.pys] at h; cases h; rw [Reps] at r; subst r; exact .nil
  | d :: ds, vs, ps, r, h => by
    rw [D.pys] at h
    cases q1 : D.py d with
    | none => rw [q1] at h; cases h
    | some a =>
      cases q2 : D.pys ds with
      | none => rw [q1, q2] at h; cases h
      | some b =>
        rw [q1, q2] at h
        cases h
        rw [Reps] at r
        obtain ⟨v, r', e, h1, h2⟩ := r
        subst e
        exact .cons (rep_dp h1 q1) (reps_dp h2 q2)
end
end
theorem pys_ints : ∀ {ds : List D}, ds.all isInt = true → ∃ ps, D.pys ds = some ps ∧ ps.length = ds.length ∧ PyData.canLayAll0 ps = true ∧ PyData.depthAll ps = 0
  | [], _ => ⟨[], by rw [D.pys], rfl, rfl, rfl⟩
  | d :: ds, h => by
    have h' : isInt d = true ∧ ds.all isInt = true := by simpa using h
    obtain ⟨ps, h1, h2, h3, h4⟩ := pys_ints h'.2
    cases d with
    | int i =>
      refine ⟨.int i :: ps, by rw [D.pys, h1, D.py], by simp [h2], ?_, ?_⟩
      · rw [PyData.canLayAll0, h3]; rfl
      · rw [PyData.depthAll, h4]; rfl
    | non => cases h'.1
    | bl _ => cases h'.1
    | str _ => cases h'.1
    | tup _ => cases h'.1
    | lst _ => cases h'.1
    | dct _ => cases h'.1
    | obj _ _ _ => cases h'.1
section
variable {Γ : Gm} {e b : Expr} {p p1 pos : Pos} {x : Str} {i : Nat}
/-- x[k] != [] of a part that is a list of ints -/
theorem sdT_kidNe (i : Nat) {k : Int} {b : Expr} {p2 : Pos} (hb : Sd Γ b (mC (.int k))) (hs : PlainIx b := by exact fun _ _ => rfl) (hN : Γ.N[i]? = some x := by rfl) (hv : Γ.vis x = true := by kernel_rfl) (hd : (x == ("__debug__" : Str)) = false := by kernel_rfl) (hcd : (x == ("__classdict__" : Str)) = false := by kernel_rfl)
    (hm : behindInMarks .NotEq (.List [] p2) = false := by first | exact nomark _ | rfl) :
    SdT Γ (.Compare (.Subscript (.Name x p) b p1) [.NotEq] [.List [] p2] pos) (tKidNe i k) := ⟨fun X ok env o env' hm' σ H T hr Q q => by
  unfold tKidNe at hm'
  split at hm'
  · rename_i j os cs q0
    split at hm'
    · rename_i ds q1
      by_cases hds : ds.all isInt = true
      · rw [if_pos hds] at hm'
        have e1 := Option.some.inj hm'
        injection e1 with e1 e2
        subst e1 e2
        refine ⟨_, pt_cmpR (op_neD ok.room.units) (pe_best X _) (pe_lst pa_nil) hm, ?_⟩
        refine kid_read ok hb hs hN hv hd hcd q0 hr fun a a1 C H1 h1 r1 g => ?_
        have hEl := leafs_eq q1
        subst hEl
        refine ⟨Nat.zero_le _, fun l hl => ?_⟩
        obtain ⟨L, hE, hS⟩ := id r1
        have hA := St.alloc (u := .lst []) hl hS
        have hS1 : St Γ.cfg.K (upd H1 l (.lst [])) (.rep (.lst (leaf ds)) (.ref a1) :: (C ++ T ++ L)) := hA.drop
        have rep := Look.rep hS1 (d := .lst ds) (v := .ref a1) ⟨.lst (leaf ds), List.mem_cons_self, by
          show (match O.leafs (leaf ds) with | some l => some (D.lst l) | none => none) = some (D.lst ds)
          rw [leafs_leaf]⟩
        obtain ⟨ps, f1, f2, f3, f4⟩ := pys_ints hds
        have dp := rep_dp rep (p := .list ps) (by rw [D.py, f1])
        refine ⟨.list ps, .list [], by rw [ok.hK]; exact dp, .lst (SqL.of hA.raw_at) .nil, ?_, rfl, !(leaf ds).isEmpty, ?_, q _ ?_⟩
        · show (PyData.canLay0 (.list ps) && decide (PyData.depth (.list ps) ≤ 64)) = true
          rw [PyData.canLay0, PyData.depth, f3, f4]; rfl
        · have e : PyData.eqv (.list ps) (.list []) = (leaf ds).isEmpty := by
            cases ds with
            | nil =>
              cases ps with
              | nil => rfl
              | cons => cases f2
            | cons d ds =>
              cases ps with
              | nil => cases f2
              | cons => rfl
          rw [e]
        · have r2 := kid_back (i := i) (env := env.set i none) ⟨L, hE, hS1⟩ (fun H' c' R h' => g H' c' R h') h1
          rw [List.set_set] at r2
          obtain ⟨z1, z2, z3⟩ := kidL_some q0
          have z1 : env[i]? = some (some (.lst os)) := z1
          have z3 : os[j]? = some (.lst (leaf ds)) := z3
          rw [show os.set j (.lst (leaf ds)) = os by
            obtain ⟨y1, y2⟩ := List.getElem?_eq_some_iff.mp z3
            rw [← y2]; exact List.set_getElem_self y1] at r2
          rw [show env.set i (some (.lst os)) = env by
            obtain ⟨y1, y2⟩ := List.getElem?_eq_some_iff.mp z1
            rw [← y2]; exact List.set_getElem_self y1] at r2
          exact r2
      · rw [if_neg hds] at hm'; cases hm'
    · cases hm'
  · cases hm'⟩
end
/-! ### a, b = x, y -/
def msetB (i : Nat) (own : Bool) (o : O) : M Unit := mset i (if own = true then o else .d o.toD)
def sPar (i : Nat) (bi : Bool) (j : Nat) (bj : Bool) (ma mb : M O) : M Fl := fun s => match mArgs [ma, mb] s with
  | some ([x, y], s1) => (mbind (msetB i bi x) fun _ => mbind (msetB j bj y) fun _ => mpure .nx) s1
  | _ => none
def sPar3 (i : Nat) (bi : Bool) (j : Nat) (bj : Bool) (l : Nat) (bl : Bool) (ma mb mc : M O) : M Fl := fun s => match mArgs [ma, mb, mc] s with
  | some ([x, y, z], s1) => (mbind (msetB i bi x) fun _ => mbind (msetB j bj y) fun _ => mbind (msetB l bl z) fun _ => mpure .nx) s1
  | _ => none
section
variable {Γ : Gm} {a b c : Expr} {px py pz pt pt2 pos : Pos} {x y z : Str} {kt k2}
theorem msetB_rs {K : PySem.W.Frag} {H : Hp} {env env' : Env} {σ : L2.St} {T : List It} {i : Nat} {own : Bool} {o : O} {v : V} (h : msetB i own o env = some ((), env')) (r : RS K H env σ (.rep o v :: T)) : RS K H env' (σ.set i (some v)) T := by
  obtain ⟨g1, g2⟩ := mset_some h
  have g2 : env' = env.set i (some (if own = true then o else .d o.toD)) := g2
  subst g2
  cases own with
  | true => exact r.put g1
  | false => exact r.freeze.put g1
theorem kp_set {A : List Nat} {σ σ' : L2.St} {i : Nat} {v : Option V} (k : Kp A σ σ') (h : i ∈ A) : Kp A σ (σ'.set i v) := ⟨by rw [List.length_set]; exact k.1, fun j hj => by
  rw [List.getElem?_set_ne (fun e => hj (by rw [← e]; exact h))]
  exact k.2 j hj⟩
theorem ss_par {ma mb : M O} (i : Nat) (bi : Bool) (j : Nat) (bj : Bool) (hn : NoStars [a, b]) (h : Sar Γ [a, b] (mArgs [ma, mb])) (hi : Γ.N[i]? = some x := by rfl) (hj : Γ.N[j]? = some y := by rfl) (hij : i ≠ j := by decide)
    (hx : Γ.sc.lookup x = some .local := by kernel_rfl) (hy : Γ.sc.lookup y = some .local := by kernel_rfl) (nd : Γ.N.Nodup := by assumption)
    (hw : ∀ env : PySem.Env, env.scope.names = Γ.sc → env.scope.kind = .function → swappedStores [.Tuple [.Name x px, .Name y py] kt pt] (.Tuple [a, b] k2 pt2) env = pure (some [x, y]) := by rintro ⟨⟨_, _, _, _, _⟩, _, _, _, _, _, _, _, _⟩ rfl rfl; rfl)
    (hs : ∀ env : PySem.Env, swapsWithSole [.Tuple [.Name x px, .Name y py] kt pt] (.Tuple [a, b] k2 pt2) pos.line env = pure false := by intro _; rfl) :
    Ss Γ (.Assign [.Tuple [.Name x px, .Name y py] kt pt] (.Tuple [a, b] k2 pt2) pos) (sPar i bi j bj ma mb) [i, j] := ⟨fun X ok env fl env' hm σ H T hr D q => by
  unfold sPar at hm
  split at hm
  · rename_i o1 o2 s1 h1
    obtain ⟨_, s2, h2, h3⟩ := mbind_some hm
    obtain ⟨_, s3, h4, h5⟩ := mbind_some h3
    have e1 := Option.some.inj (show some (Fl.nx, s3) = some (fl, env') from h5)
    injection e1 with e1 e2
    subst e1 e2
    refine ⟨_, ps_par ok.calm (by rw [ok.hN]; exact nd) (by rw [ok.hN]; exact hi) (by rw [ok.hN]; exact hj) hij (by rw [ok.hsc]; exact hx) (by rw [ok.hsc]; exact hy) (pa_of hn) (hw X.env ok.hsc ok.hkd) (hs X.env), ?_⟩
    refine h.run X ok env _ s1 h1 σ H T hr (fun vs H1 => ∃ v w, vs = [v, w] ∧ D.nx ((σ.set i (some v)).set j (some w)) H1) fun vs H1 hl r => ?_
    match vs, hl with
    | [v, w], _ =>
      refine ⟨v, w, rfl, q _ H1 ?_ (kp_set (kp_set (Kp.refl _ _) (by simp)) (by simp))⟩
      exact msetB_rs h4 (msetB_rs h2 r)
  · cases hm⟩
theorem ss_par3 {ma mb mc : M O} (i : Nat) (bi : Bool) (j : Nat) (bj : Bool) (l : Nat) (bl : Bool) (hn : NoStars [a, b, c]) (h : Sar Γ [a, b, c] (mArgs [ma, mb, mc])) (hi : Γ.N[i]? = some x := by rfl) (hj : Γ.N[j]? = some y := by rfl) (hl : Γ.N[l]? = some z := by rfl) (hij : i ≠ j := by decide) (hil : i ≠ l := by decide) (hjl : j ≠ l := by decide)
    (hx : Γ.sc.lookup x = some .local := by kernel_rfl) (hy : Γ.sc.lookup y = some .local := by kernel_rfl) (hz : Γ.sc.lookup z = some .local := by kernel_rfl) (nd : Γ.N.Nodup := by assumption)
    (hw : ∀ env : PySem.Env, env.scope.names = Γ.sc → env.scope.kind = .function → swappedStores [.Tuple [.Name x px, .Name y py, .Name z pz] kt pt] (.Tuple [a, b, c] k2 pt2) env = pure (some [x, y, z]) := by rintro ⟨⟨_, _, _, _, _⟩, _, _, _, _, _, _, _, _⟩ rfl rfl; rfl)
    (hs : ∀ env : PySem.Env, swapsWithSole [.Tuple [.Name x px, .Name y py, .Name z pz] kt pt] (.Tuple [a, b, c] k2 pt2) pos.line env = pure false := by intro _; rfl) :
    Ss Γ (.Assign [.Tuple [.Name x px, .Name y py, .Name z pz] kt pt] (.Tuple [a, b, c] k2 pt2) pos) (sPar3 i bi j bj l bl ma mb mc) [i, j, l] := ⟨fun X ok env fl env' hm σ H T hr D q => by
  unfold sPar3 at hm
  split at hm
  · rename_i o1 o2 o3 s1 h1
    obtain ⟨_, s2, h2, h3⟩ := mbind_some hm
    obtain ⟨_, s3, h4, h5⟩ := mbind_some h3
    obtain ⟨_, s4, h6, h7⟩ := mbind_some h5
    have e1 := Option.some.inj (show some (Fl.nx, s4) = some (fl, env') from h7)
    injection e1 with e1 e2
    subst e1 e2
    refine ⟨_, ps_par3 ok.calm (by rw [ok.hN]; exact nd) (by rw [ok.hN]; exact hi) (by rw [ok.hN]; exact hj) (by rw [ok.hN]; exact hl) hij hil hjl (by rw [ok.hsc]; exact hx) (by rw [ok.hsc]; exact hy) (by rw [ok.hsc]; exact hz) (pa_of hn) (hw X.env ok.hsc ok.hkd) (hs X.env), ?_⟩
    refine h.run X ok env _ s1 h1 σ H T hr (fun vs H1 => ∃ u v w, vs = [u, v, w] ∧ D.nx (((σ.set i (some u)).set j (some v)).set l (some w)) H1) fun vs H1 hlen r => ?_
    match vs, hlen with
    | [u, v, w], _ =>
      refine ⟨u, v, w, rfl, q _ H1 ?_ (kp_set (kp_set (kp_set (Kp.refl _ _) (by simp)) (by simp)) (by simp))⟩
      exact msetB_rs h6 (msetB_rs h4 (msetB_rs h2 r))
  · cases hm⟩
end
end BM

set_option Elab.async false
set_option linter.all false
set_option maxRecDepth 100000
set_option maxHeartbeats 4000000
/-! BM, part 12: comprehensions with two fors. -/
namespace BM
open PySem PySem.Spec PyProof.Rows L2
section
variable {Γ : Gm} {tg iter tg1 iter1 elt : Expr} {ifs ifs1 : List Expr} {scope : Scope} {pos : Pos} {src src1 : M (List D)} {g g1 : D → M Unit} {t t1 : M Bool} {me : M O} {A A1 own1 : List Nat} {own : List (Str × Nat)}
theorem lcL2_cons {ow ow1 : List Nat} {d : D} {ds : List D} {env : Env} {r : List O × Env} (h : lcL2 ow ow1 g t src1 g1 t1 me (d :: ds) env = some r) : ∃ s1 k s2, g d env = some ((), s1) ∧ t s1 = some (k, s2) ∧
    ((k = true ∧ ∃ ds1 s3 l1 s4 l s5, src1 s2 = some (ds1, s3) ∧ lcL ow1 g1 t1 me ds1 (wipeE s3 ow1) = some (l1, s4) ∧ lcL2 ow ow1 g t src1 g1 t1 me ds (wipeE s4 ow) = some (l, s5) ∧ r = (l1 ++ l, s5)) ∨ (k = false ∧ lcL2 ow ow1 g t src1 g1 t1 me ds (wipeE s2 ow) = some r)) := by
  rw [lcL2] at h
  obtain ⟨_, s1, h1, h2⟩ := mbind_some h
  obtain ⟨k, s2, h3, h4⟩ := mbind_some h2
  refine ⟨s1, k, s2, h1, h3, ?_⟩
  cases k with
  | true =>
    rw [if_pos rfl] at h4
    obtain ⟨ds1, s3, h5, h6⟩ := mbind_some h4
    obtain ⟨_, s3', h7, h8⟩ := mbind_some h6
    have e1 := Option.some.inj (show some ((), wipeE s3 ow1) = some ((), s3') from h7)
    injection e1 with _ e1
    subst e1
    obtain ⟨l1, s4, h9, h10⟩ := mbind_some h8
    obtain ⟨_, s4', h11, h12⟩ := mbind_some h10
    have e1 := Option.some.inj (show some ((), wipeE s4 ow) = some ((), s4') from h11)
    injection e1 with _ e1
    subst e1
    obtain ⟨l, s5, h13, h14⟩ := mbind_some h12
    exact .inl ⟨rfl, ds1, s3, l1, s4, l, s5, h5, h9, h13, (Option.some.inj (show some (l1 ++ l, s5) = some r from h14)).symm⟩
  | false =>
    rw [if_neg Bool.false_ne_true] at h4
    obtain ⟨_, s3', h7, h8⟩ := mbind_some h4
    have e1 := Option.some.inj (show some ((), wipeE s2 ow) = some ((), s3') from h7)
    injection e1 with _ e1
    subst e1
    exact .inr ⟨rfl, h8⟩
theorem mLc2_some {ow ow1 : List Nat} {env : Env} {r : O × Env} (h : mLc2 ow ow1 src g t src1 g1 t1 me env = some r) : ∃ ds s1 l s2, src env = some (ds, s1) ∧ lcL2 ow ow1 g t src1 g1 t1 me ds (wipeE s1 ow) = some (l, s2) ∧ l.length ≤ sizeLine ∧ r = (.lst l, s2) := by
  obtain ⟨ds, s1, h1, h2⟩ := mbind_some h
  obtain ⟨_, s1', h3, h4⟩ := mbind_some h2
  have e1 := Option.some.inj (show some ((), wipeE s1 ow) = some ((), s1') from h3)
  injection e1 with _ e1
  subst e1
  obtain ⟨l, s2, h5, h6⟩ := mbind_some h4
  by_cases hl : l.length ≤ sizeLine
  · rw [if_pos hl] at h6
    exact ⟨ds, s1, l, s2, h1, h5, hl, (Option.some.inj (show some (O.lst l, s2) = some r from h6)).symm⟩
  · rw [if_neg hl] at h6; cases h6
/-- into a block whose own names are void on both sides -/
theorem RS.rewipe {K : PySem.W.Frag} {H : Hp} {env : Env} {σ σ' : L2.St} {T : List It} {ow : List Nat} (h : RS K H env σ' T) (hl : σ'.length = σ.length) (hk : ∀ i, i ∉ ow → σ'[i]? = σ[i]?) : RS K H (wipeE env ow) (L2.wipe σ ow) T := by
  obtain ⟨L, hE, hS⟩ := h.wipe ow
  refine ⟨L, hE.other (by rw [L2.wipe_length, L2.wipe_length, hl]) fun i o e => ?_, hS⟩
  have hi : i ∉ ow := fun z => wipeE_none z e
  rw [wipe_out hi, wipe_out hi, hk i hi]
def iAll (Γ : Gm) (tg iter : Expr) : TI := fun σ H R => ∀ X, Γ.Ok X → WIt X tg iter σ H R
theorem pi_all {X : Cx} (ok : Γ.Ok X) : PI X tg iter (iAll Γ tg iter) := ⟨fun pins s σ H R I h => (pi_best X tg iter).run pins s σ H R I (h X ok)⟩
theorem kp_wipe {ow : List Nat} {σ σ' : L2.St} (h : L2.wipe σ' ow = L2.wipe σ ow) : σ'.length = σ.length ∧ ∀ i, i ∉ ow → σ'[i]? = σ[i]? := by
  refine ⟨?_, fun i hi => ?_⟩
  · have := congrArg List.length h
    rw [L2.wipe_length, L2.wipe_length] at this
    exact this
  · have := congrArg (·[i]?) h
    rw [show (L2.wipe σ' ow)[i]? = σ'[i]? from wipe_out hi, show (L2.wipe σ ow)[i]? = σ[i]? from wipe_out hi] at this
    exact this
theorem lc2_read (hi : Si Γ tg iter src) (hk : scope.kind = .function) (hg : Sg (Γ.blk scope) tg g A) (ht : Sts (Γ.blk scope) ifs t) (hi1 : Si (Γ.blk scope) tg1 iter1 src1) (hg1 : Sg (Γ.blk scope) tg1 g1 A1) (ht1 : Sts (Γ.blk scope) ifs1 t1) (he : Sd (Γ.blk scope) elt me)
    (hA : ∀ i ∈ A, i ∈ own.map (·.2)) (hA1 : ∀ i ∈ A1, i ∈ own1) (hO : ∀ i ∈ own1, i ∈ own.map (·.2))
    {X : Cx} (ok : Γ.Ok X) {env : Env} {o : O} {env' : Env} (hm : mLc2 (own.map (·.2)) own1 src g t src1 g1 t1 me env = some (o, env')) {σ : L2.St} {H : Hp} {T : List It} (hr : RS Γ.cfg.K H env σ T) {Q : VK}
    (q : ∀ v H', RS Γ.cfg.K H' env' σ (.rep o v :: T) → Q v H') : tLc2 (WIt X tg iter) (gAll (Γ.blk scope) tg) (tAll (Γ.blk scope) ifs) (iAll (Γ.blk scope) tg1 iter1) (gAll (Γ.blk scope) tg1) (tAll (Γ.blk scope) ifs1) (eAll (Γ.blk scope) elt) (own.map (·.2)) own1 σ H Q := by
  obtain ⟨ds, s1, l, s2, h1, h2, hl, e1⟩ := mLc2_some hm
  injection e1 with e1 e2
  subst e1 e2
  generalize hw : own.map (·.2) = ow at *
  refine hi.run X ok env ds s1 h1 σ H T hr _ fun J H1 TI wk r1 => ?_
  intro Dl hD
  refine ⟨fun i n H' => n = ds.length - i ∧ i ≤ ds.length ∧ ∃ s acc rest, RS Γ.cfg.K H' s (L2.wipe σ ow) (.rep (.lst acc) (.ref Dl) :: (TI ++ T)) ∧ (∀ i ∈ ow, ∀ o, s[i]? ≠ some (some o)) ∧ lcL2 ow own1 g t src1 g1 t1 me (ds.drop i) s = some (rest, env') ∧ acc ++ rest = l,
    ⟨ds.length, rfl, Nat.zero_le _, wipeE s1 ow, [], l, ?_, fun i hi o => wipeE_none hi, h2, rfl⟩, ?_⟩
  · refine RS.lift (fun L h => ?_) (r1.wipe ow)
    exact St.close_lst (os := []) (vs := []) rfl (St.alloc hD h)
  rintro i n H2 ⟨rfl, hle, s, acc, rest, r2, hn, h3, ha⟩
  by_cases hlt : i < ds.length
  · right
    obtain ⟨L, hE, hS⟩ := id r2
    have hS' : St Γ.cfg.K H2 (TI ++ (.rep (.lst acc) (.ref Dl) :: (T ++ L))) := by
      refine hS.perm ?_
      show (It.rep (.lst acc) (.ref Dl) :: (TI ++ T ++ L)).Perm _
      rw [List.append_assoc]
      exact List.perm_middle.symm
    refine ⟨wk.go i H2 _ hlt hS', fun H' => ∃ s acc rest, RS Γ.cfg.K H' s (L2.wipe σ ow) (.rep (.lst acc) (.ref Dl) :: (TI ++ T)) ∧ (∀ i ∈ ow, ∀ o, s[i]? ≠ some (some o)) ∧ lcL2 ow own1 g t src1 g1 t1 me (ds.drop (i + 1)) s = some (rest, env') ∧ acc ++ rest = l,
      fun H' hN => ⟨ds.length - (i + 1), by omega, rfl, hlt, hN⟩, fun x H' hy => ?_⟩
    have hS2 := wk.yld i H2 _ x H' hlt hS' hy
    have r3 : RS Γ.cfg.K H' s (L2.wipe σ ow) (.rep (.d ds[i]) x :: .rep (.lst acc) (.ref Dl) :: (TI ++ T)) := ⟨L, hE, hS2.perm (.cons _ (by
      show (TI ++ (It.rep (.lst acc) (.ref Dl) :: (T ++ L))).Perm (It.rep (.lst acc) (.ref Dl) :: (TI ++ T ++ L))
      rw [List.append_assoc]
      exact List.perm_middle))⟩
    rw [List.drop_eq_getElem_cons hlt] at h3
    obtain ⟨s3, k, s4, g1', g2, g3⟩ := lcL2_cons h3
    intro X' ok'
    refine hg.run X' ok' s ds[i] s3 g1' _ H' _ x r3 _ fun σ3 H3 r4 k3 => ⟨wipe_eq k3 hA, ?_⟩
    have hσ3 := kp_wipe (wipe_eq k3 hA)
    intro X2 ok2
    refine ht.run X2 ok2 s3 k s4 g2 σ3 H3 _ r4 _ fun H4 r5 => ?_
    rcases g3 with ⟨rfl, ds1, s5, l1, s6, l', s7, f1, f2, f3, f4⟩ | ⟨rfl, f1⟩
    · injection f4 with f4 f5
      subst f4 f5
      rw [if_pos rfl]
      intro X3 ok3
      refine hi1.run X3 ok3 s4 ds1 s5 f1 σ3 H4 _ r5 _ fun J1 H5 TI1 wk1 r6 => ?_
      refine ⟨fun j m H' => m = ds1.length - j ∧ j ≤ ds1.length ∧ ∃ s acc1 rest1, RS Γ.cfg.K H' s (L2.wipe σ3 own1) (.rep (.lst acc1) (.ref Dl) :: (TI1 ++ (TI ++ T))) ∧ (∀ i ∈ own1, ∀ o, s[i]? ≠ some (some o)) ∧ lcL own1 g1 t1 me (ds1.drop j) s = some (rest1, s6) ∧ acc1 ++ rest1 = acc ++ l1,
        ⟨ds1.length, rfl, Nat.zero_le _, wipeE s5 own1, acc, l1, ?_, fun i hi o => wipeE_none hi, f2, rfl⟩, ?_⟩
      · exact (r6.perm List.perm_middle).wipe own1
      rintro j m H6 ⟨rfl, hle1, s8, acc1, rest1, r7, hn1, h8, ha1⟩
      by_cases hlt1 : j < ds1.length
      · right
        obtain ⟨L1, hE1, hS1⟩ := id r7
        have hS1' : St Γ.cfg.K H6 (TI1 ++ (.rep (.lst acc1) (.ref Dl) :: (TI ++ T ++ L1))) := by
          refine hS1.perm ?_
          show (It.rep (.lst acc1) (.ref Dl) :: (TI1 ++ (TI ++ T) ++ L1)).Perm _
          rw [List.append_assoc]
          exact List.perm_middle.symm
        refine ⟨wk1.go j H6 _ hlt1 hS1', fun H' => ∃ s acc1 rest1, RS Γ.cfg.K H' s (L2.wipe σ3 own1) (.rep (.lst acc1) (.ref Dl) :: (TI1 ++ (TI ++ T))) ∧ (∀ i ∈ own1, ∀ o, s[i]? ≠ some (some o)) ∧ lcL own1 g1 t1 me (ds1.drop (j + 1)) s = some (rest1, s6) ∧ acc1 ++ rest1 = acc ++ l1,
          fun H' hN => ⟨ds1.length - (j + 1), by omega, rfl, hlt1, hN⟩, fun x1 H' hy1 => ?_⟩
        have hS2' := wk1.yld j H6 _ x1 H' hlt1 hS1' hy1
        have r8 : RS Γ.cfg.K H' s8 (L2.wipe σ3 own1) (.rep (.d ds1[j]) x1 :: .rep (.lst acc1) (.ref Dl) :: (TI1 ++ (TI ++ T))) := ⟨L1, hE1, hS2'.perm (.cons _ (by
          show (TI1 ++ (It.rep (.lst acc1) (.ref Dl) :: (TI ++ T ++ L1))).Perm (It.rep (.lst acc1) (.ref Dl) :: (TI1 ++ (TI ++ T) ++ L1))
          rw [List.append_assoc TI1]
          exact List.perm_middle))⟩
        rw [List.drop_eq_getElem_cons hlt1] at h8
        obtain ⟨s9, k1, s10, p1, p2, p3⟩ := lcL_cons h8
        intro X4 ok4
        refine hg1.run X4 ok4 s8 ds1[j] s9 p1 _ H' _ x1 r8 _ fun σ4 H7 r9 k4 => ⟨wipe_eq k4 hA1, ?_⟩
        intro X5 ok5
        refine ht1.run X5 ok5 s9 k1 s10 p2 σ4 H7 _ r9 _ fun H8 r10 => ?_
        rcases p3 with ⟨rfl, y, s11, l2, s12, t1', t2, t3⟩ | ⟨rfl, t1'⟩
        · injection t3 with t3 t4
          subst t3 t4
          rw [if_pos rfl]
          intro X6 ok6
          refine he.run X6 ok6 s10 y s11 t1' σ4 H8 _ r10 _ fun v H9 r11 => ?_
          obtain ⟨vs, q1, q2, q3⟩ := append_rs r11
          refine ⟨vs, q1, ?_, wipeE s11 own1, acc1 ++ [y], l2, ?_, fun i hi o => wipeE_none hi, t2, by rw [List.append_assoc]; exact ha1⟩
          · rw [q2]
            have z : (acc ++ (l1 ++ l')).length ≤ sizeLine := by rw [ha]; exact hl
            have z2 : (acc1 ++ y :: l2).length = (acc ++ l1).length := by rw [ha1]
            rw [List.length_append, List.length_cons, List.length_append] at z2
            rw [List.length_append, List.length_append] at z
            omega
          · rw [← wipe_eq k4 hA1]
            exact q3.wipe own1
        · rw [if_neg Bool.false_ne_true]
          refine ⟨wipeE s10 own1, acc1, rest1, ?_, fun i hi o => wipeE_none hi, t1', ha1⟩
          rw [← wipe_eq k4 hA1]
          exact r10.wipe own1
      · left
        have e : j = ds1.length := by omega
        subst e
        rw [List.drop_length] at h8
        have e1 := Option.some.inj (show some (([] : List O), s8) = some (rest1, s6) from h8)
        injection e1 with e1 e2
        subst e1 e2
        rw [List.append_nil] at ha1
        subst ha1
        obtain ⟨L1, hE1, hS1⟩ := id r7
        have hS1' : St Γ.cfg.K H6 (TI1 ++ (.rep (.lst (acc ++ l1)) (.ref Dl) :: (TI ++ T ++ L1))) := by
          refine hS1.perm ?_
          show (It.rep (.lst (acc ++ l1)) (.ref Dl) :: (TI1 ++ (TI ++ T) ++ L1)).Perm _
          rw [List.append_assoc]
          exact List.perm_middle.symm
        refine ⟨wk1.stop H6 _ hS1', wipeE s8 ow, acc ++ l1, l', ?_, fun i hi o => wipeE_none hi, f3, by rw [List.append_assoc]; exact ha⟩
        have r12 : RS Γ.cfg.K H6 s8 (L2.wipe σ3 own1) (.rep (.lst (acc ++ l1)) (.ref Dl) :: (TI ++ T)) := r7.lift fun L h => h.sub (.cons₂ _ (by
          show (TI ++ T ++ L).Sublist (TI1 ++ (TI ++ T) ++ L)
          rw [List.append_assoc TI1]
          exact List.sublist_append_right _ _))
        refine r12.rewipe (by rw [L2.wipe_length]; rw [hσ3.1]) fun i hi => ?_
        rw [wipe_out fun z => hi (hO i z), hσ3.2 i hi]
    · rw [if_neg Bool.false_ne_true]
      refine ⟨wipeE s4 ow, acc, rest, ?_, fun i hi o => wipeE_none hi, f1, ha⟩
      exact r5.rewipe hσ3.1 hσ3.2
  · left
    have e : i = ds.length := by omega
    subst e
    rw [List.drop_length] at h3
    have e1 := Option.some.inj (show some (([] : List O), s) = some (rest, env') from h3)
    injection e1 with e1 e2
    subst e1 e2
    rw [List.append_nil] at ha
    subst ha
    obtain ⟨L, hE, hS⟩ := id r2
    have hS' : St Γ.cfg.K H2 (TI ++ (.rep (.lst acc) (.ref Dl) :: (T ++ L))) := by
      refine hS.perm ?_
      show (It.rep (.lst acc) (.ref Dl) :: (TI ++ T ++ L)).Perm _
      rw [List.append_assoc]
      exact List.perm_middle.symm
    refine ⟨wk.stop H2 _ hS', q _ H2 ?_⟩
    refine RS.unwipe (own := ow) ?_ hn
    exact r2.lift fun L h => h.sub (.cons₂ _ (by show (T ++ L).Sublist (TI ++ T ++ L); rw [List.append_assoc]; exact List.sublist_append_right _ _))
theorem sd_lc2 (hi : Si Γ tg iter src) (hk : scope.kind = .function) (hg : Sg (Γ.blk scope) tg g A) (ht : Sts (Γ.blk scope) ifs t) (hi1 : Si (Γ.blk scope) tg1 iter1 src1) (hg1 : Sg (Γ.blk scope) tg1 g1 A1) (ht1 : Sts (Γ.blk scope) ifs1 t1) (he : Sd (Γ.blk scope) elt me)
    (hA : ∀ i ∈ A, i ∈ own.map (·.2)) (hA1 : ∀ i ∈ A1, i ∈ own1) (hO : ∀ i ∈ own1, i ∈ own.map (·.2)) (hb : blkFact Γ scope own = true) (nd : Γ.N.Nodup)
    (hs : ∀ (env : PySem.Env) x, foldedSetIterable iter env x = pure x := by intro _ _; rfl) (hs1 : ∀ (env : PySem.Env) x, foldedSetIterable iter1 env x = pure x := by intro _ _; rfl) : Sd Γ (.ListComp elt [⟨tg, iter, ifs, 0⟩, ⟨tg1, iter1, ifs1, 0⟩] scope pos) (mLc2 (own.map (·.2)) own1 src g t src1 g1 t1 me) := ⟨fun X ok env o env' hm σ H T hr Q q => by
  refine ⟨_, pe_lc2 (own := own) ok.calm (by rw [ok.hN]; exact nd) (pi_best X tg iter) (blk_ok ok hb) hO (fun s H C cl fp => pg_all (ok.blk hk)) (fun s H C cl fp => pts_all (ok.blk hk)) (fun s H C cl fp => pi_all (ok.blk hk)) (fun s H C cl fp => pg_all (ok.blk hk)) (fun s H C cl fp => pts_all (ok.blk hk)) (fun s H C cl fp => pe_all (ok.blk hk)) (hs X.env) hs1, ?_⟩
  exact lc2_read hi hk hg ht hi1 hg1 ht1 he hA hA1 hO ok hm hr q⟩
theorem ss_setLc2O {i : Nat} {y : Str} {py spos : Pos} (hi : Si Γ tg iter src) (hk : scope.kind = .function) (hg : Sg (Γ.blk scope) tg g A) (ht : Sts (Γ.blk scope) ifs t) (hi1 : Si (Γ.blk scope) tg1 iter1 src1) (hg1 : Sg (Γ.blk scope) tg1 g1 A1) (ht1 : Sts (Γ.blk scope) ifs1 t1) (he : Sd (Γ.blk scope) elt me)
    (hA : ∀ i ∈ A, i ∈ own.map (·.2)) (hA1 : ∀ i ∈ A1, i ∈ own1) (hO : ∀ i ∈ own1, i ∈ own.map (·.2)) (hb : blkFact Γ scope own = true) (nd : Γ.N.Nodup)
    (hN : Γ.N[i]? = some y) (hy : Γ.sc.lookup y = some .local) (hl : (py.line == pos.line) = true) (ha : (scope.names.any fun (n, k) => n == y && (k == .local || k == .cell)) = false)
    (hs : ∀ (env : PySem.Env) x, foldedSetIterable iter env x = pure x := by intro _ _; rfl) (hs1 : ∀ (env : PySem.Env) x, foldedSetIterable iter1 env x = pure x := by intro _ _; rfl) : Ss Γ (.Assign [.Name y py] (.ListComp elt [⟨tg, iter, ifs, 0⟩, ⟨tg1, iter1, ifs1, 0⟩] scope pos) spos) (sSetO i (mLc2 (own.map (·.2)) own1 src g t src1 g1 t1 me)) [i] := ⟨fun X ok env fl env' hm σ H T hr D q => by
  obtain ⟨o, s1, h1, h2⟩ := mbind_some hm
  obtain ⟨_, s2, h3, h4⟩ := mbind_some h2
  have e1 := Option.some.inj (show some (Fl.nx, s2) = some (fl, env') from h4)
  injection e1 with e1 e2
  subst e1 e2
  obtain ⟨g1', g2⟩ := mset_some h3
  have g2 : s2 = s1.set i (some o) := g2
  subst g2
  have hyl : X.env.scope.names.lookup y = some .local := by rw [ok.hsc]; exact hy
  refine ⟨_, ps_setLc2 (own := own) ok.calm (by rw [ok.hN]; exact nd) (by rw [ok.hN]; exact hN) hyl (sw_true ok.hkd hyl hl ha) (pi_best X tg iter) (blk_ok ok hb) hO (fun s H C cl fp => pg_all (ok.blk hk)) (fun s H C cl fp => pts_all (ok.blk hk)) (fun s H C cl fp => pi_all (ok.blk hk)) (fun s H C cl fp => pg_all (ok.blk hk)) (fun s H C cl fp => pts_all (ok.blk hk)) (fun s H C cl fp => pe_all (ok.blk hk)) (hs X.env) hs1, ?_⟩
  exact lc2_read hi hk hg ht hi1 hg1 ht1 he hA hA1 hO ok h1 hr fun v H' r => q _ H' (r.put g1') Kp.set⟩
theorem ss_setLc2 {i : Nat} {y : Str} {py spos : Pos} (hi : Si Γ tg iter src) (hk : scope.kind = .function) (hg : Sg (Γ.blk scope) tg g A) (ht : Sts (Γ.blk scope) ifs t) (hi1 : Si (Γ.blk scope) tg1 iter1 src1) (hg1 : Sg (Γ.blk scope) tg1 g1 A1) (ht1 : Sts (Γ.blk scope) ifs1 t1) (he : Sd (Γ.blk scope) elt me)
    (hA : ∀ i ∈ A, i ∈ own.map (·.2)) (hA1 : ∀ i ∈ A1, i ∈ own1) (hO : ∀ i ∈ own1, i ∈ own.map (·.2)) (hb : blkFact Γ scope own = true) (nd : Γ.N.Nodup)
    (hN : Γ.N[i]? = some y) (hy : Γ.sc.lookup y = some .local) (hl : (py.line == pos.line) = true) (ha : (scope.names.any fun (n, k) => n == y && (k == .local || k == .cell)) = false)
    (hs : ∀ (env : PySem.Env) x, foldedSetIterable iter env x = pure x := by intro _ _; rfl) (hs1 : ∀ (env : PySem.Env) x, foldedSetIterable iter1 env x = pure x := by intro _ _; rfl) : Ss Γ (.Assign [.Name y py] (.ListComp elt [⟨tg, iter, ifs, 0⟩, ⟨tg1, iter1, ifs1, 0⟩] scope pos) spos) (sSet i (mLc2 (own.map (·.2)) own1 src g t src1 g1 t1 me)) [i] := ⟨fun X ok env fl env' hm σ H T hr D q => by
  obtain ⟨o, s1, h1, h2⟩ := mbind_some hm
  obtain ⟨_, s2, h3, h4⟩ := mbind_some h2
  have e1 := Option.some.inj (show some (Fl.nx, s2) = some (fl, env') from h4)
  injection e1 with e1 e2
  subst e1 e2
  obtain ⟨g1', g2⟩ := mset_some h3
  have g2 : s2 = s1.set i (some (.d o.toD)) := g2
  subst g2
  have hyl : X.env.scope.names.lookup y = some .local := by rw [ok.hsc]; exact hy
  refine ⟨_, ps_setLc2 (own := own) ok.calm (by rw [ok.hN]; exact nd) (by rw [ok.hN]; exact hN) hyl (sw_true ok.hkd hyl hl ha) (pi_best X tg iter) (blk_ok ok hb) hO (fun s H C cl fp => pg_all (ok.blk hk)) (fun s H C cl fp => pts_all (ok.blk hk)) (fun s H C cl fp => pi_all (ok.blk hk)) (fun s H C cl fp => pg_all (ok.blk hk)) (fun s H C cl fp => pts_all (ok.blk hk)) (fun s H C cl fp => pe_all (ok.blk hk)) (hs X.env) hs1, ?_⟩
  exact lc2_read hi hk hg ht hi1 hg1 ht1 he hA hA1 hO ok h1 hr fun v H' r => q _ H' (r.freeze.put g1') Kp.set⟩
end
end BM

set_option Elab.async false
set_option linter.all false
set_option maxRecDepth 100000
set_option maxHeartbeats 4000000
/-! BM, part 13: starred targets, targets from lists. -/
namespace BM
open PySem PySem.Spec PyProof.Rows L2
section
variable {prog : Program} {w : World} {A : Around} {E : Value → Shared → Prop} {s : Shared}
theorem unp_starT {l : Addr} {items : Array Value} {n i : Nat} {Q : List Value → Shared → Prop} (hl : IsTup s.heap l items) (hh : A.handled = none) (hi : i < n) (hn : n ≤ items.size + 1) (hz : items.size ≤ sizeLine)
    (h : ∀ (h2 : Heap) (tk : Nat), (∀ b o, s.heap.get? b = some o → h2.get? b = some o) → Q (items.toList.take i ++ [.ref h2.objs.size] ++ (items.toList.drop i).drop (items.size + 1 - n)) { s with heap := h2.push { cls := .type "list", data := .seq ((items.toList.drop i).take (items.size + 1 - n)).toArray }, toks := tk }) :
    wpAny (model prog w) A (unpackItems (.ref l) n (some i)) Q E s := by
  have hlt : l ≠ s.heap.objs.size := by obtain ⟨o, ho, _⟩ := hl; exact Nat.ne_of_lt (Heap.lt_size ho)
  unfold unpackItems
  refine wpAny_bind ?_
  unfold notIterableAtAll
  refine wpAny_bind (wpAny_specialOf hl.typeIs slot_tuple_iter.lookup ?_)
  refine wpAny_pure ?_
  simp only [Bool.false_eq_true, if_false]
  refine wpAny_bind (wpAny_holding (iter_tuple hl ?_))
  refine wpAny_bind (wpAny_holding (draw_tuple hlt i 0 _ _ ⟨_, Heap.get?_push_size _ rfl, rfl, rfl⟩ (hl.push _) (by omega) fun h₁ hit₁ hs₁ => ?_))
  have hl₁ : IsTup h₁ l items := (hl.push _).extBut hs₁.extBut hlt
  rw [Nat.zero_add] at hit₁
  have hit₁' := hit₁
  obtain ⟨oi, hoi, _⟩ := hit₁'
  have hl₁' := hl₁
  obtain ⟨ol, hol, _⟩ := hl₁'
  rw [List.drop_zero]
  have hfl : (items.toList.take i).length = i := by rw [List.length_take, Array.length_toList]; omega
  rw [if_neg (show ¬ ((items.toList.take i).length < i) by rw [hfl]; omega)]
  refine wpAny_bind (wpAny_holding (PySem.W.kun_collect (s := { s with heap := h₁ }) (T := "tuple_iterator") (.inr (.inr (.inr rfl))) (Walks.tuple (A := A.in1) hh s.heap.objs.size l hlt items) (fun j u st => st.1.typeIs) (k := i) (by omega) ⟨hit₁, hl₁⟩ (Heap.lt_size hoi) (Heap.lt_size hol) (fun h₂ tk hk => ?_) hz))
  have hrl : (items.toList.drop i).length = items.size - i := by rw [List.length_drop, Array.length_toList]
  have hmid : (items.toList.drop i).length - (n - 1 - i) = items.size + 1 - n := by rw [hrl]; omega
  show wpAny _ _ (if (items.toList.drop i).length < n - 1 - i then _ else _) _ _ _
  rw [if_neg (by rw [hrl]; omega)]
  show wpAny _ _ (newList ((items.toList.drop i).take ((items.toList.drop i).length - (n - 1 - i))) >>= fun d => pure (items.toList.take i ++ [d] ++ (items.toList.drop i).drop ((items.toList.drop i).length - (n - 1 - i)))) _ _ _
  rw [hmid]
  refine wpAny_bind (wpAny_newObj_type ?_ (by
    show ((items.toList.drop i).take (items.size + 1 - n)).length ≤ sizeLine
    rw [List.length_take, hrl]; omega))
  exact wpAny_pure (h h₂ tk fun b o e => hk b o (Nat.ne_of_lt (Heap.lt_size e)) (hs₁.extBut b o (Nat.ne_of_lt (Heap.lt_size e)) (Heap.get?_push_of_some _ e)))
theorem unp_starL {l : Addr} {items : Array Value} {n i : Nat} {Q : List Value → Shared → Prop} (hl : s.heap.IsList l items) (hh : A.handled = none) (hi : i < n) (hn : n ≤ items.size + 1) (hz : items.size ≤ sizeLine)
    (h : ∀ (h2 : Heap) (tk : Nat), (∀ b o, s.heap.get? b = some o → h2.get? b = some o) → Q (items.toList.take i ++ [.ref h2.objs.size] ++ (items.toList.drop i).drop (items.size + 1 - n)) { s with heap := h2.push { cls := .type "list", data := .seq ((items.toList.drop i).take (items.size + 1 - n)).toArray }, toks := tk }) :
    wpAny (model prog w) A (unpackItems (.ref l) n (some i)) Q E s := by
  have hlt : l ≠ s.heap.objs.size := by obtain ⟨o, ho, _⟩ := hl; exact Nat.ne_of_lt (Heap.lt_size ho)
  unfold unpackItems
  refine wpAny_bind ?_
  unfold notIterableAtAll
  refine wpAny_bind (wpAny_specialOf hl.typeIs slot_list_iter.lookup ?_)
  refine wpAny_pure ?_
  simp only [Bool.false_eq_true, if_false]
  refine wpAny_bind (wpAny_holding (wpAny_pyIter_list hl ?_))
  refine wpAny_bind (wpAny_holding (PySem.W.kun_draw hlt i 0 _ _ ⟨_, Heap.get?_push_size _ rfl, rfl, rfl⟩ (hl.push _) (by omega) fun h₁ hit₁ hs₁ => ?_))
  have hl₁ : h₁.IsList l items := (hl.push _).extBut hs₁.extBut hlt
  rw [Nat.zero_add] at hit₁
  have hit₁' := hit₁
  obtain ⟨oi, hoi, _⟩ := hit₁'
  have hl₁' := hl₁
  obtain ⟨ol, hol, _⟩ := hl₁'
  rw [List.drop_zero]
  have hfl : (items.toList.take i).length = i := by rw [List.length_take, Array.length_toList]; omega
  rw [if_neg (show ¬ ((items.toList.take i).length < i) by rw [hfl]; omega)]
  refine wpAny_bind (wpAny_holding (PySem.W.kun_collect (s := { s with heap := h₁ }) (T := "list_iterator") (.inr (.inr (.inl rfl))) (Walks.list (A := A.in1) hh s.heap.objs.size l hlt items) (fun j u st => st.1.typeIs) (k := i) (by omega) ⟨hit₁, hl₁⟩ (Heap.lt_size hoi) (Heap.lt_size hol) (fun h₂ tk hk => ?_) hz))
  have hrl : (items.toList.drop i).length = items.size - i := by rw [List.length_drop, Array.length_toList]
  have hmid : (items.toList.drop i).length - (n - 1 - i) = items.size + 1 - n := by rw [hrl]; omega
  show wpAny _ _ (if (items.toList.drop i).length < n - 1 - i then _ else _) _ _ _
  rw [if_neg (by rw [hrl]; omega)]
  show wpAny _ _ (newList ((items.toList.drop i).take ((items.toList.drop i).length - (n - 1 - i))) >>= fun d => pure (items.toList.take i ++ [d] ++ (items.toList.drop i).drop ((items.toList.drop i).length - (n - 1 - i)))) _ _ _
  rw [hmid]
  refine wpAny_bind (wpAny_newObj_type ?_ (by
    show ((items.toList.drop i).take (items.size + 1 - n)).length ≤ sizeLine
    rw [List.length_take, hrl]; omega))
  exact wpAny_pure (h h₂ tk fun b o e => hk b o (Nat.ne_of_lt (Heap.lt_size e)) (hs₁.extBut b o (Nat.ne_of_lt (Heap.lt_size e)) (Heap.get?_push_of_some _ e)))
end
theorem vals_take {xs : List V} {us : List Value} (h : Vals xs us) : ∀ n, Vals (xs.take n) (us.take n) := by
  induction h with
  | nil => intro n; simp; exact .nil
  | cons a _ ih =>
    intro n
    cases n with
    | zero => exact .nil
    | succ n => exact .cons a (ih n)
theorem vals_drop {xs : List V} {us : List Value} (h : Vals xs us) : ∀ n, Vals (xs.drop n) (us.drop n) := by
  induction h with
  | nil => intro n; simp; exact .nil
  | cons a r ih =>
    intro n
    cases n with
    | zero => exact .cons a r
    | succ n => exact ih n
/-- a, *b, c = a tuple or a list -/
def gStar (K : PySem.W.Frag) (n i : Nat) (t : TGs) : TG := fun v σ H Q => ∃ a xs, v = .ref a ∧ (SqT K H a xs ∨ SqL K H a xs) ∧ i < n ∧ n ≤ xs.length + 1 ∧ ∀ p, H p = none → t (xs.take i ++ [.ref p] ++ (xs.drop i).drop (xs.length + 1 - n)) σ (upd H p (.lst ((xs.drop i).take (xs.length + 1 - n)))) Q
theorem pg_star {X : Cx} {pos : Pos} {es : List Expr} {k : Nat} {t : TGs} {n i : Nat} (hc : X.calm = true) (h : PGs X es t)
    (hn : (assignEach es X.env).length = n) (hst : (assignEach es X.env).findIdx? (·.1) = some i) : PG X (.Tuple es k pos) (gStar X.K n i t) := by
  refine ⟨fun pins s σ H v u Q I r hw => ?_⟩
  obtain ⟨a, xs, e1, hq, h1, h2, hw⟩ := hw
  subst e1
  cases r
  have fin : ∀ (its : List Value), Vals xs its → its.length ≤ sizeLine → ∀ (h2 : Heap) (tk : Nat), (∀ b o, s.heap.get? b = some o → h2.get? b = some o) →
      wpAny (model X.prog X.w) X.A (assignInOrder ((assignEach es X.env).map (·.2)) (its.toArray.toList.take i ++ [.ref h2.objs.size] ++ (its.toArray.toList.drop i).drop (its.toArray.size + 1 - n))) (fun _ s' => ∃ σ' H', Inv X pins σ' H' s' ∧ Q σ' H') X.xe { s with heap := h2.push { cls := .type "list", data := .seq ((its.toArray.toList.drop i).take (its.toArray.size + 1 - n)).toArray }, toks := tk } := by
    intro its rv hz h2 tk hk
    have hl := rv.length
    have I1 : Inv X pins σ H { s with heap := h2, toks := tk } := I.kept (t' := tk) hk
    have hp : H h2.objs.size = none := I1.hok.fresh (Nat.le_refl _)
    have hsz : its.toArray.size = xs.length := by rw [List.size_toArray, hl]
    rw [hsz]
    show wpAny _ _ (assignInOrder _ (its.take i ++ [.ref h2.objs.size] ++ (its.drop i).drop (xs.length + 1 - n))) _ _ _
    have rm : Vals ((xs.drop i).take (xs.length + 1 - n)) ((its.drop i).take (xs.length + 1 - n)) := vals_take (vals_drop rv i) _
    have I2 : Inv X pins σ (upd H h2.objs.size (.lst ((xs.drop i).take (xs.length + 1 - n)))) { s with heap := h2.push { cls := .type "list", data := .seq ((its.drop i).take (xs.length + 1 - n)).toArray }, toks := tk } := by
      refine I1.laid (t' := tk) (fun b o e => Heap.get?_push_of_some _ e) (Nat.le_refl _) ⟨?_, _, 0, rm, ?_⟩
      · rw [rm.length, List.length_take, List.length_drop]; omega
      · exact Heap.get?_push_size _ rfl
    exact h.run pins _ σ _ _ _ Q I2 (((vals_take rv i).append (.cons (show RelV (.ref h2.objs.size) (.ref h2.objs.size) from rfl) .nil)).append (vals_drop (vals_drop rv i) _)) (hw _ hp)
  rw [PyProof.Rows.assign_Tuple]
  refine wpAny_bind (wpAny_standAt ?_)
  unfold unpack
  rw [hn, hst]
  rcases hq with hq | hq
  · obtain ⟨its, rv, ht, hz⟩ := I.tuple hq
    have hl := rv.length
    exact wpAny_bind (wpAny_holding (unp_starT ht (I.ok.hd hc) h1 (by rw [List.size_toArray]; omega) (by rw [List.size_toArray]; omega) (fin its rv (by omega))))
  · obtain ⟨its, rv, pl, hz⟩ := I.list hq
    have hl := rv.length
    have hl' : s.heap.IsList a its.toArray := by
      obtain ⟨o, m, e, c, d, q⟩ := pl
      exact ⟨o, e, c, m, q⟩
    exact wpAny_bind (wpAny_holding (unp_starL hl' (I.ok.hd hc) h1 (by rw [List.size_toArray]; omega) (by rw [List.size_toArray]; omega) (fin its rv (by omega))))
/-! ### the words -/
def starD (n i : Nat) (ds : List D) : Option (List D) := if i < n ∧ n ≤ ds.length + 1 then some (ds.take i ++ [.lst ((ds.drop i).take (ds.length + 1 - n))] ++ (ds.drop i).drop (ds.length + 1 - n)) else none
def gStr (n i : Nat) (gs : List (D → M Unit)) : D → M Unit := fun d => match listOfD d with
  | some ds => (match starD n i ds with
    | some es => gTs gs es
    | none => mfail)
  | none => mfail
def gTpL (gs : List (D → M Unit)) : D → M Unit
  | .lst ds => gTs gs ds
  | _ => mfail
section
variable {Γ : Gm} {e : Expr} {p pos : Pos} {x : Str}
theorem sgs_star {ts : List Expr} {g : D → M Unit} {gs : List (D → M Unit)} {A B : List Nat} (h : Sg Γ e g A) (hs : Sgs Γ ts gs B) : Sgs Γ (.Starred e p :: ts) (g :: gs) (A ++ B) := ⟨fun X ok env ds env' hm σ H T vs hl hr Q q => by
  cases ds with
  | nil => cases hm
  | cons d ds =>
    cases vs with
    | nil => cases hl
    | cons v vs =>
      obtain ⟨_, s1, h1, h2⟩ := mbind_some (show mbind (g d) (fun _ => gTs gs ds) env = _ from hm)
      have key : PGs X (.Starred e p :: ts) (gCons (WG X e) (WGs X ts)) := by
        refine ⟨fun pins s σ H vs us Q I r h => ?_⟩
        obtain ⟨v, vr, e1, h⟩ := h
        subst e1
        cases r with
        | cons r rr =>
          show wpAny _ _ (assignInOrder (assign e X.env :: (assignEach ts X.env).map (·.2)) _) _ _ _
          refine assignInOrder_cons (thn ((pg_best X e).run pins s σ H _ _ _ I r h) fun _ s1 ⟨σ1, H1, I1, q1⟩ => ?_)
          exact (pgs_best X ts).run pins s1 σ1 H1 _ _ Q I1 rr q1
      refine ⟨_, key, v, vs, rfl, ?_⟩
      refine h.run X ok env d s1 h1 σ H (reps (leaf ds) vs ++ T) v hr _ fun σ1 H1 r1 k1 => ?_
      exact hs.run X ok s1 ds env' h2 σ1 H1 T vs (by simpa using hl) r1 _ fun σ2 H2 r2 k2 => q σ2 H2 r2 (k1.trans k2)⟩
theorem sg_str {ts : List Expr} {k : Nat} {gs : List (D → M Unit)} {A : List Nat} {n i : Nat} (h : Sgs Γ ts gs A) (hn : ∀ env : PySem.Env, (assignEach ts env).length = n := by intro _; rfl)
    (hst : ∀ env : PySem.Env, (assignEach ts env).findIdx? (·.1) = some i := by intro _; rfl) : Sg Γ (.Tuple ts k pos) (gStr n i gs) A := ⟨fun X ok env d env' hm σ H T v hr Q q => by
  unfold gStr at hm
  cases q1 : listOfD d with
  | none => rw [q1] at hm; cases hm
  | some ds =>
    simp only [q1] at hm
    cases q2 : starD n i ds with
    | none => simp only [q2] at hm; cases hm
    | some es =>
      simp only [q2] at hm
      unfold starD at q2
      by_cases hc : i < n ∧ n ≤ ds.length + 1
      · rw [if_pos hc] at q2
        have e1 := Option.some.inj q2
        subst e1
        obtain ⟨L, hE, hS⟩ := hr
        have key : ∃ a vs, v = .ref a ∧ (SqT Γ.cfg.K H a vs ∨ SqL Γ.cfg.K H a vs) ∧ ds.length = vs.length ∧ St Γ.cfg.K H (reps (leaf ds) vs ++ (T ++ L)) := by
          cases d with
          | tup l =>
            have e := Option.some.inj (show some l = some ds from q1)
            subst e
            obtain ⟨a, vs, e1, h1, h2, h3⟩ := hS.read_tup
            exact ⟨a, vs, e1, .inl h1, h2, h3.sub (List.Sublist.append_left (List.sublist_cons_self _ _) _)⟩
          | lst l =>
            have e := Option.some.inj (show some l = some ds from q1)
            subst e
            obtain ⟨a, vs, e1, h1, h2, h3⟩ := hS.read_lst
            exact ⟨a, vs, e1, .inr h1, h2, h3.sub (List.Sublist.append_left (List.sublist_cons_self _ _) _)⟩
          | _ => cases q1
        obtain ⟨a, vs, e1, h1, h2, h3⟩ := key
        refine ⟨gStar X.K n i (WGs X ts), pg_star ok.calm (pgs_best X ts) (hn X.env) (hst X.env), a, vs, e1, by rw [ok.hK]; exact h1, hc.1, by rw [← h2]; exact hc.2, fun p hp => ?_⟩
        rw [← h2]
        refine h.run X ok env _ env' hm σ _ T _ (by simp [h2]) ⟨L, hE, ?_⟩ Q q
        have h4 := h3.alloc (u := .lst ((vs.drop i).take (ds.length + 1 - n))) hp
        -- the parts: ahead, within, behind
        have e2 : reps (leaf ds) vs = reps (leaf (ds.take i)) (vs.take i) ++ (reps (leaf ((ds.drop i).take (ds.length + 1 - n))) ((vs.drop i).take (ds.length + 1 - n)) ++ reps (leaf ((ds.drop i).drop (ds.length + 1 - n))) ((vs.drop i).drop (ds.length + 1 - n))) := by
          rw [reps_take, reps_take, reps_drop (ds := ds.drop i) (vs := vs.drop i) (by simp [h2]), reps_drop h2, List.take_append_drop, List.take_append_drop]
        rw [e2] at h4
        have e3 : reps (leaf (ds.take i ++ [.lst ((ds.drop i).take (ds.length + 1 - n))] ++ (ds.drop i).drop (ds.length + 1 - n))) (vs.take i ++ [.ref p] ++ (vs.drop i).drop (ds.length + 1 - n)) =
            reps (leaf (ds.take i)) (vs.take i) ++ (.rep (.d (.lst ((ds.drop i).take (ds.length + 1 - n)))) (.ref p) :: reps (leaf ((ds.drop i).drop (ds.length + 1 - n))) ((vs.drop i).drop (ds.length + 1 - n))) := by
          have key : ∀ (a b : List O) (c d : List V), a.length = c.length → reps (a ++ b) (c ++ d) = reps a c ++ reps b d := by
            intro a
            induction a with
            | nil =>
              intro b c d h
              cases c with
              | nil => rfl
              | cons => cases h
            | cons x a ih =>
              intro b c d h
              cases c with
              | nil => cases h
              | cons y c =>
                show It.rep x y :: reps (a ++ b) (c ++ d) = It.rep x y :: (reps a c ++ reps b d)
                rw [ih b c d (by simpa using h)]
          simp only [leaf, List.map_append, List.append_assoc, List.map_cons, List.map_nil]
          rw [key _ _ _ _ (by simp [h2])]
          rfl
        rw [e3, List.append_assoc]
        have h5 : St Γ.cfg.K _ (.raw p (.lst ((vs.drop i).take (ds.length + 1 - n))) :: (reps (leaf ((ds.drop i).take (ds.length + 1 - n))) ((vs.drop i).take (ds.length + 1 - n)) ++ (reps (leaf (ds.take i)) (vs.take i) ++ (reps (leaf ((ds.drop i).drop (ds.length + 1 - n))) ((vs.drop i).drop (ds.length + 1 - n)) ++ (T ++ L))))) := h4.perm (.cons _ (by
          refine List.Perm.trans (.of_eq ?_) ((List.perm_append_comm (l₁ := reps (leaf (ds.take i)) (vs.take i)) (l₂ := reps (leaf ((ds.drop i).take (ds.length + 1 - n))) ((vs.drop i).take (ds.length + 1 - n)))).append_right (reps (leaf ((ds.drop i).drop (ds.length + 1 - n))) ((vs.drop i).drop (ds.length + 1 - n)) ++ (T ++ L)) |>.trans (.of_eq ?_))
          · simp only [List.append_assoc]
          · simp only [List.append_assoc]))
        have h6 := (St.close_lst (by simp [h2]) h5).freeze
        have e4 : (O.lst (leaf ((ds.drop i).take (ds.length + 1 - n)))).toD = .lst ((ds.drop i).take (ds.length + 1 - n)) := by
          rw [O.toD, toDs_leaf]
        rw [e4] at h6
        refine h6.perm ?_
        simp only [List.append_assoc, List.cons_append]
        exact List.perm_middle.symm
      · rw [if_neg hc] at q2; cases q2⟩
theorem sg_tpL {ts : List Expr} {k : Nat} {gs : List (D → M Unit)} {A : List Nat} {n : Nat} (h : Sgs Γ ts gs A) (hl : gs.length = n := by rfl) (hn : ∀ env : PySem.Env, (assignEach ts env).length = n := by intro _; rfl)
    (hst : ∀ env : PySem.Env, (assignEach ts env).findIdx? (·.1) = none := by intro _; rfl) : Sg Γ (.Tuple ts k pos) (gTpL gs) A := ⟨fun X ok env d env' hm σ H T v hr Q q => by
  cases d with
  | lst ds =>
    have hlen : ds.length = gs.length := by
      have key : ∀ (gs : List (D → M Unit)) (ds : List D) (env : Env) (r : Unit × Env), gTs gs ds env = some r → ds.length = gs.length := by
        intro gs
        induction gs with
        | nil =>
          intro ds env r h
          cases ds with
          | nil => rfl
          | cons => cases h
        | cons g gs ih =>
          intro ds env r h
          cases ds with
          | nil => cases h
          | cons d ds =>
            obtain ⟨_, s1, _, h2⟩ := mbind_some (show mbind (g d) (fun _ => gTs gs ds) env = _ from h)
            rw [List.length_cons, List.length_cons, ih ds s1 r h2]
      exact key gs ds env _ hm
    obtain ⟨L, hE, hS⟩ := hr
    obtain ⟨a, vs, e1, h1, h2, h3⟩ := hS.read_lst
    refine ⟨gUnl X.K n (WGs X ts), pg_unl ok.calm (pgs_best X ts) (hn X.env) (hst X.env), a, vs, e1, by rw [ok.hK]; exact h1, by rw [← h2, hlen, hl], ?_⟩
    refine h.run X ok env ds env' hm σ H T vs h2 ⟨L, hE, ?_⟩ Q q
    rw [List.append_assoc]
    exact h3.sub (List.Sublist.append_left (List.sublist_cons_self _ _) _)
  | _ => cases hm⟩
end
end BM

set_option Elab.async false
set_option linter.all false
set_option maxRecDepth 100000
set_option maxHeartbeats 4000000
/-! BM, part 14: what the operations compute. -/
namespace BM
open PySem PySem.Spec PyProof.Rows L2

/-! ### words -/
def w1 (f : D → Option O) : List D → Option O
  | [a] => f a
  | _ => none
def w2 (f : D → D → Option O) : List D → Option O
  | [a, b] => f a b
  | _ => none
def w1b (f : D → Option Bool) : List D → Option Bool
  | [a] => f a
  | _ => none
def w2b (f : D → D → Option Bool) : List D → Option Bool
  | [a, b] => f a b
  | _ => none
def fAdd : D → D → Option O
  | .int i, .int j => some (.d (.int (i + j)))
  | .str a, .str b => if a.length + b.length ≤ sizeLine then some (.d (.str (a ++ b))) else none
  | .lst a, .lst b => if a.length + b.length ≤ sizeLine then some (.lst (leaf (a ++ b))) else none
  | .tup a, .tup b => if a.length + b.length ≤ sizeLine then some (.d (.tup (a ++ b))) else none
  | _, _ => none
def fSub : D → D → Option O
  | .int i, .int j => some (.d (.int (i - j)))
  | _, _ => none
def sm64 (i : Int) : Bool := decide (-(2 ^ 64) < i) && decide (i < 2 ^ 64)
def fMul : D → D → Option O
  | .int i, .int j => if (sm64 i || sm64 j) = true then some (.d (.int (i * j))) else none
  | .lst a, .int k => if -(2 ^ 63) ≤ k ∧ k < 2 ^ 63 ∧ a.length * k.toNat ≤ sizeLine then some (.lst (leaf (List.replicate k.toNat a).flatten)) else none
  | .tup a, .int k => if a ≠ [] ∧ 2 ≤ k ∧ k ≤ 1000 ∧ a.length ≤ 1000 then some (.d (.tup (List.replicate k.toNat a).flatten)) else none
  | _, _ => none
def fMod : D → D → Option O
  | .int i, .int j => if 0 < j then some (.d (.int (i % j))) else none
  | _, _ => none
def fDiv : D → D → Option O
  | .int i, .int j => if 0 < j ∧ j < 1073741824 then some (.d (.int (i / j))) else none
  | _, _ => none
def fPow : D → D → Option O
  | .int i, .int j => if 0 ≤ j ∧ j ≤ 1000000 ∧ i.natAbs < 2 ^ 64 then some (.d (.int (i ^ j.toNat))) else none
  | _, _ => none
def fNeg : D → Option O
  | .int i => some (.d (.int (-i)))
  | _ => none
def fLt : D → D → Option Bool
  | .int i, .int j => some (decide (i < j))
  | .str a, .str b => some (decide (a.cps.toList < b.cps.toList))
  | _, _ => none
def fLe : D → D → Option Bool
  | .int i, .int j => some (decide (i ≤ j))
  | .str a, .str b => some (!decide (b.cps.toList < a.cps.toList))
  | _, _ => none
def fGt : D → D → Option Bool
  | .int i, .int j => some (decide (j < i))
  | .str a, .str b => some (decide (b.cps.toList < a.cps.toList))
  | _, _ => none
def fGe : D → D → Option Bool
  | .int i, .int j => some (decide (j ≤ i))
  | .str a, .str b => some (!decide (a.cps.toList < b.cps.toList))
  | _, _ => none
def fEqD (a b : D) : Option Bool := match a.py, b.py with
  | some p, some q => if (SeqAt.shaped p && SeqAt.shaped q) = true then some (PyData.eqv p q) else none
  | _, _ => none
def fEq : D → D → Option Bool
  | .str x, .str y => some (decide (x = y))
  | .tup a, b => fEqD (.tup a) b
  | .lst a, b => fEqD (.lst a) b
  | .int a, b => fEqD (.int a) b
  | .bl a, b => fEqD (.bl a) b
  | .non, b => fEqD .non b
  | .str x, b => fEqD (.str x) b
  | _, _ => none
def fNe (a b : D) : Option Bool := match fEq a b with
  | some k => some (!k)
  | none => none
def fIs : D → D → Option Bool
  | .non, .non => some true
  | .bl a, .bl b => some (decide (a = b))
  | .bl _, .non => some false
  | .int _, .non => some false
  | .str _, .non => some false
  | .tup _, .non => some false
  | .lst _, .non => some false
  | .dct _, .non => some false
  | .obj _ _ _, .non => some false
  | _, _ => none
def fIsN (a b : D) : Option Bool := match fIs a b with
  | some k => some (!k)
  | none => none
def fIn (a b : D) : Option Bool := match a, b with
  | .str x, .str y => some (!(Builtin.Str.occurrences y x 0 y.length 1).isEmpty)
  | a, .lst l => (match a.py, D.pys l with
    | some p, some q => if (SeqAt.shaped p && SeqAt.shaped (.list q)) = true then some (q.any fun z => PyData.eqv z p) else none
    | _, _ => none)
  | a, .tup l => (match a.py, D.pys l with
    | some p, some q => if (SeqAt.shaped p && SeqAt.shaped (.list q)) = true then some (q.any fun z => PyData.eqv z p) else none
    | _, _ => none)
  | _, _ => none
def fNotIn (a b : D) : Option Bool := match fIn a b with
  | some k => some (!k)
  | none => none
def fIx : D → D → Option O
  | .lst l, .int k => (match ixN l.length k with
    | some j => (match l[j]? with
      | some d => some (.d d)
      | none => none)
    | none => none)
  | .tup l, .int k => (match ixN l.length k with
    | some j => (match l[j]? with
      | some d => some (.d d)
      | none => none)
    | none => none)
  | .str x, .int k => if x.length ≤ sizeLine then (match ixN x.cps.toList.length k with
    | some j => (match x.cps.toList[j]? with
      | some c => some (.d (.str ⟨#[c]⟩))
      | none => none)
    | none => none) else none
  | _, _ => none

/-! ### the rules -/
section
variable {Γ : Gm}
theorem okB_of {f : Value → Value → Sem Value} {g : D → D → Option O} (h : ∀ X, Γ.Ok X → ∀ H L x y d e o, St Γ.cfg.K H L → Look L d x → Look L e y → g d e = some o → ∀ Q : VK, (∀ v H', St Γ.cfg.K H' (.rep o v :: L) → Q v H') → WO X f x y H Q) : OkB Γ f (w2 g) :=
  fun X ok H L x y d e o hS lx ly hF Q q => h X ok H L x y d e o hS lx ly hF Q q
theorem okb_of {f : Value → Value → Sem Value} {g : D → D → Option Bool} (h : ∀ X, Γ.Ok X → ∀ H L x y d e k, St Γ.cfg.K H L → Look L d x → Look L e y → g d e = some k → ∀ Q : VK, Q (.bl k) H → WO X f x y H Q) : OkB Γ f (bO (w2b g)) :=
  fun X ok H L x y d e o hS lx ly hF Q q => by
    cases q1 : g d e with
    | none =>
      have hF' : (match g d e with | some b => some (O.d (.bl b)) | none => none) = some o := hF
      rw [q1] at hF'; cases hF'
    | some k =>
      have hF' : (match g d e with | some b => some (O.d (.bl b)) | none => none) = some o := hF
      rw [q1] at hF'
      have e1 := Option.some.inj hF'
      subst e1
      exact h X ok H L x y d e k hS lx ly q1 Q (q _ H (hS.flat rfl))
section
variable {X : Cx}
def rCatL (K : PySem.W.Frag) : R2 := fun x y H Q => ∃ l b xs zs, x = .ref l ∧ y = .ref b ∧ SqL K H l xs ∧ SqL K H b zs ∧ xs.length + zs.length ≤ sizeLine ∧ ∀ p, H p = none → Q (.ref p) (upd H p (.lst (xs ++ zs)))
theorem op_catL : OpR X (binaryOp .Add) (rCatL X.K) := by
  intro pins s σ H x y v u Q I rx ry h
  obtain ⟨l, b, xs, zs, rfl, rfl, hH, hB, hz, q⟩ := h
  cases rx
  cases ry
  obtain ⟨its, r, ⟨⟨cls, dd, data, sl⟩, n, ho, hc, _, hd⟩, hs⟩ := I.list hH
  obtain ⟨its2, r2, ⟨⟨cls2, dd2, data2, sl2⟩, n2, ho2, hc2, _, hd2⟩, hs2⟩ := I.list hB
  simp only at hc hd hc2 hd2
  subst hc hd hc2 hd2
  have hl := r.length
  have hl2 := r2.length
  refine concat_meets ⟨_, ho, rfl⟩ ⟨_, ho2, rfl⟩ noFill_list_add seq_list_add PySem.F.slot_list_add PySem.F.entry_list_add (PySem.F.args_list_add_2 _ _) (PyProof.Rows.list_addW l b its.toArray its2.toArray n n2 _ _ sl sl2 (by rw [List.size_toArray, List.size_toArray]; omega)) ⟨ho, ho2, ?_⟩
  have ea : its.toArray ++ its2.toArray = (its ++ its2).toArray := by simp
  rw [ea]
  exact ⟨.ref _, _, I.lnew (t' := s.toks) (r.append r2) (by rw [List.length_append]; omega), rfl, q _ I.fresh⟩
theorem int_rmul_listW (a : Int) (t : Tok) (l : Addr) (items : Array Value) (n : Nat) (dd : Option Addr) (sl : Array (Option Value)) :
    Meets (Builtin.«int.__rmul__» ⟨[.int a t, .ref l], []⟩) (fun _ R s => s.heap.get? l = some { cls := .type "list", dict := dd, data := .seq items n, slots := sl } ∧ R (.ok (.ret Value.notImplemented)) s) :=
  .of_wp fun prog w A R s h => by obtain ⟨hp, g, d, tk, os⟩ := s; obtain ⟨hl, h⟩ := h; wp_walk using wpAny_loadPart' hl; exact ⟨_, rfl, h⟩
theorem list_mulW (l : Addr) (items : Array Value) (n : Nat) (dd : Option Addr) (sl : Array (Option Value)) (x : Int) (u : Tok) (hc0 : ¬(!Builtin.List.listFitsIndex x) = true) (hc1 : ¬items.size * x.toNat > (2 ^ 63 - 1) / 8) (hc2 : ¬Builtin.List.listTooLong (items.size * x.toNat) = true) :
    Meets (Builtin.«list.__mul__» ⟨[.ref l, .int x u], []⟩) (fun _ R s => s.heap.get? l = some { cls := .type "list", dict := dd, data := .seq items n, slots := sl } ∧ R (.ok (.ret (Value.ref s.heap.objs.size))) { s with heap := s.heap.push { cls := Value.type "list", data := Data.seq (List.foldl (fun x1 x2 => x1 ++ x2) #[] (List.replicate (if items.isEmpty = true then 0 else x.toNat) items)) }, toks := s.toks }) :=
  .of_wp fun prog w A R s h => by
    obtain ⟨hp, g, d, tk, os⟩ := s; obtain ⟨hl, h⟩ := h
    have hsz := AutoListH.joined_fits hc2
    wp_walk using wpAny_loadPart' hl
    refine wpAny_ite_false (decide_eq_false (Nat.not_lt.mpr hsz)) ?_
    wp_walk using wpAny_loadPart' hl
    exact ⟨_, rfl, h⟩
def rRepL (K : PySem.W.Frag) : R2 := fun x y H Q => ∃ l k xs, x = .ref l ∧ y = .int k ∧ SqL K H l xs ∧ -(2 ^ 63) ≤ k ∧ k < 2 ^ 63 ∧ xs.length * k.toNat ≤ sizeLine ∧
  ∀ p, H p = none → Q (.ref p) (upd H p (.lst (List.replicate k.toNat xs).flatten))
theorem op_repL : OpR X (binaryOp .Mult) (rRepL X.K) := by
  intro pins s σ H x y v u Q I rx ry h
  obtain ⟨l, k, xs, rfl, rfl, hH, h1, h2, hz, q⟩ := h
  cases rx
  obtain ⟨t, rfl⟩ := ry
  obtain ⟨its, r, ⟨⟨cls, dd, data, sl⟩, n, ho, hc, _, hd⟩, hs⟩ := I.list hH
  simp only at hc hd
  subst hc hd
  have hl := r.length
  have hlen : its.toArray.size * k.toNat ≤ sizeLine := by rw [List.size_toArray, ← hl]; exact hz
  have hcap : ¬ its.toArray.size * k.toNat > (2 ^ 63 - 1) / 8 := by
    have : (sizeLine : Nat) ≤ (2 ^ 63 - 1) / 8 := by decide
    omega
  have hfit : ¬ (!Builtin.List.listFitsIndex k) = true := by
    rw [fitsIndex_both h1 h2]
    exact Bool.false_ne_true
  have hlong : ¬ Builtin.List.listTooLong (its.toArray.size * k.toNat) = true := by
    rw [notLongL hlen]
    exact Bool.false_ne_true
  have hnew : List.foldl (fun x1 x2 => x1 ++ x2) #[] (List.replicate (if its.toArray.isEmpty = true then 0 else k.toNat) its.toArray) = (List.replicate k.toNat its).flatten.toArray := by
    have f0 : ∀ m : Nat, List.foldl (fun x1 x2 => x1 ++ x2) #[] (List.replicate m its.toArray) = (List.replicate m its).flatten.toArray := fun m => by
      have := foldl_rep its m []
      rw [List.nil_append] at this
      exact this
    rw [f0]
    cases its with
    | nil => simp
    | cons a r' => rw [if_neg (by simp)]
  refine wpAny_binaryOp_repeat_ref (T := "list") (U := "int") (by decide) ⟨_, ho, rfl⟩ (fun s' => typeIs_int s' k t) noFill_list_mul F.fills_int_mul F.slot_int_rmul repeat_list F.slot_int_index.lookup
    (call_meets F.slot_int_rmul (typeIs_int s k t) F.entry_int_rmul (F.args_int_rmul_2 _ _) (int_rmul_listW k t l its.toArray n _ sl)
      ⟨ho, rfl, ⟨_, ho, rfl⟩, call_meets F.slot_list_mul ⟨_, ho, rfl⟩ F.entry_list_mul (F.args_list_mul_2 _ _) (list_mulW l its.toArray n _ sl k t hfit hcap hlong) ⟨ho, ?_⟩⟩)
  rw [hnew]
  exact ⟨.ref _, _, I.lnew (t' := s.toks) (r.rep k.toNat) (by rw [PyProof.Rows.lm_len_rep_flat, Nat.mul_comm]; exact hz), rfl, q _ I.fresh⟩
end
theorem reps_append {a b : List O} {c d : List V} (h : a.length = c.length) : reps (a ++ b) (c ++ d) = reps a c ++ reps b d := by
  induction a generalizing c with
  | nil =>
    cases c with
    | nil => rfl
    | cons => cases h
  | cons x a ih =>
    cases c with
    | nil => cases h
    | cons y c =>
      show It.rep x y :: reps (a ++ b) (c ++ d) = It.rep x y :: (reps a c ++ reps b d)
      rw [ih (by simpa using h)]
section
variable {K : PySem.W.Frag} {H : Hp} {L : List It}
/-- a new list of parts that are at hand -/
theorem St.newLst {ds : List D} {vs : List V} {p : Addr} (hl : ds.length = vs.length) (hp : H p = none) (h : St K H (reps (leaf ds) vs ++ L)) : St K (upd H p (.lst vs)) (.rep (.lst (leaf ds)) (.ref p) :: L) :=
  St.close_lst (by simpa using hl) (St.alloc hp h)
theorem St.newTup {ds : List D} {vs : List V} {p : Addr} (hl : ds.length = vs.length) (hp : H p = none) (h : St K H (reps (leaf ds) vs ++ L)) : St K (upd H p (.tup vs)) (.rep (.d (.tup ds)) (.ref p) :: L) :=
  St.close_tup hl (St.alloc hp h)
theorem Look.more {L' : List It} {d : D} {v : V} (k : Look L d v) : Look (L' ++ L) d v := k.wide fun _ h => List.mem_append_right _ h
theorem rep_lst {ds : List D} {vs : List V} (hl : ds.length = vs.length) : ∀ n, (List.replicate n ds).flatten.length = (List.replicate n vs).flatten.length := fun n => by
  rw [PyProof.Rows.lm_len_rep_flat, PyProof.Rows.lm_len_rep_flat, hl]
theorem Look.tupSt {b : List D} {v : V} (k : Look L (.tup b) v) (h : St K H L) : St K H (.rep (.d (.tup b)) v :: L) := by
  obtain ⟨o, hm, hf⟩ := k
  obtain ⟨r, p⟩ := mem_perm hm
  cases o with
  | d x =>
    have e := Option.some.inj (show some x = some (D.tup b) from hf)
    subst e
    exact (St.dup (h.perm p)).perm (.cons _ p.symm)
  | lst os =>
    have h' : (match O.leafs os with | some l => some (D.lst l) | none => none) = some (D.tup b) := hf
    cases q : O.leafs os with
    | none => rw [q] at h'; cases h'
    | some l => rw [q] at h'; cases h'
  | dct ks os =>
    have h' : (match O.leafs os with | some l => some (D.dct (ks.zip l)) | none => none) = some (D.tup b) := hf
    cases q : O.leafs os with
    | none => rw [q] at h'; cases h'
    | some l => rw [q] at h'; cases h'
  | obj C ns os =>
    have h' : (match O.leafs os with | some l => some (D.obj C ns l) | none => none) = some (D.tup b) := hf
    cases q : O.leafs os with
    | none => rw [q] at h'; cases h'
    | some l => rw [q] at h'; cases h'
/-- plain parts may be had as often as is wanted -/
theorem St.many : ∀ {R' R : List It}, (∀ x ∈ R', x ∈ R ∧ ∃ d v, x = .rep (.d d) v) → St K H (R ++ L) → St K H (R' ++ (R ++ L))
  | [], _, _, h => h
  | x :: R', R, hx, h => by
    have h1 := St.many (R' := R') (fun y hy => hx y (List.mem_cons_of_mem _ hy)) h
    obtain ⟨hm, d, v, e⟩ := hx x List.mem_cons_self
    subst e
    obtain ⟨r, p⟩ := mem_perm (show It.rep (.d d) v ∈ R' ++ (R ++ L) from List.mem_append_right _ (List.mem_append_left _ hm))
    exact (St.dup (h1.perm p)).perm (.cons _ p.symm)
theorem reps_leaf_mem : ∀ {ds : List D} {vs : List V} {x : It}, x ∈ reps (leaf ds) vs → ∃ d v, x = .rep (.d d) v
  | [], vs, x, h => by simp [reps] at h
  | d :: ds, [], x, h => by simp [reps] at h
  | d :: ds, v :: vs, x, h => by
    rcases List.mem_cons.mp (show x ∈ It.rep (.d d) v :: reps (leaf ds) vs from h) with e | h
    · exact ⟨d, v, e⟩
    · exact reps_leaf_mem h
theorem reps_times {ds : List D} {vs : List V} (hl : ds.length = vs.length) : ∀ n, reps (leaf (List.replicate n ds).flatten) (List.replicate n vs).flatten = (List.replicate n (reps (leaf ds) vs)).flatten
  | 0 => rfl
  | n + 1 => by
    rw [List.replicate_succ, List.flatten_cons, List.replicate_succ, List.flatten_cons, List.replicate_succ, List.flatten_cons, ← reps_times hl n]
    rw [show leaf (ds ++ (List.replicate n ds).flatten) = leaf ds ++ leaf (List.replicate n ds).flatten by simp [leaf]]
    exact reps_append (by simp [hl])
theorem St.times {ds : List D} {vs : List V} (hl : ds.length = vs.length) (h : St K H (reps (leaf ds) vs ++ L)) (n : Nat) : St K H (reps (leaf (List.replicate n ds).flatten) (List.replicate n vs).flatten ++ L) := by
  rw [reps_times hl]
  have h1 := h.many (R' := (List.replicate n (reps (leaf ds) vs)).flatten) fun x hx => by
    obtain ⟨l, hl, hx⟩ := List.mem_flatten.mp hx
    obtain ⟨_, e⟩ := List.mem_replicate.mp hl
    subst e
    exact ⟨hx, reps_leaf_mem hx⟩
  exact h1.sub (List.Sublist.append_left (List.sublist_append_right _ _) _)
end

/-! ### arithmetic -/
theorem sm64_lt {i : Int} (h : sm64 i = true) : -(2 ^ 64) < i ∧ i < 2 ^ 64 := by
  unfold sm64 at h
  simpa using h
theorem ok_add : OkB Γ (binaryOp .Add) (w2 fAdd) := okB_of fun X ok H L x y d e o hS lx ly hF Q q => by
  unfold fAdd at hF
  split at hF
  · have e1 := Option.some.inj hF
    subst e1
    exact ⟨_, op_add, _, _, lx.int hS, ly.int hS, q _ H (hS.flat rfl)⟩
  · rename_i a b
    by_cases hz : a.length + b.length ≤ sizeLine
    · rw [if_pos hz] at hF
      have e1 := Option.some.inj hF
      subst e1
      exact ⟨_, op_add_str, _, _, lx.str hS, ly.str hS, hz, q _ H (hS.flat rfl)⟩
    · rw [if_neg hz] at hF; cases hF
  · rename_i a b
    by_cases hz : a.length + b.length ≤ sizeLine
    · rw [if_pos hz] at hF
      have e1 := Option.some.inj hF
      subst e1
      obtain ⟨p, vs, e1, h1, l1, s1⟩ := Look.lst hS lx
      obtain ⟨r, ws, e2, h2, l2, s2⟩ := Look.lst s1 ly.more
      subst e1 e2
      refine ⟨_, op_catL, p, r, vs, ws, rfl, rfl, by rw [ok.hK]; exact h1, by rw [ok.hK]; exact h2, by omega, fun z hz => q _ _ ?_⟩
      refine St.newLst (by simp [l1, l2]) hz ?_
      rw [show leaf (a ++ b) = leaf a ++ leaf b by simp [leaf], reps_append (by simp [l1])]
      refine s2.perm ?_
      rw [List.append_assoc, ← List.append_assoc]
      exact (List.perm_append_comm.append_right L).trans (.of_eq (by rw [List.append_assoc]))
    · rw [if_neg hz] at hF; cases hF
  · rename_i a b
    by_cases hz : a.length + b.length ≤ sizeLine
    · rw [if_pos hz] at hF
      have e1 := Option.some.inj hF
      subst e1
      obtain ⟨p, vs, e1, h1, l1, s1⟩ := Look.tup hS lx
      obtain ⟨r, ws, e2, h2, l2, s2⟩ := Look.tup s1 ly.more
      subst e1 e2
      refine ⟨_, op_catA, p, r, vs, ws, rfl, rfl, by rw [ok.hK]; exact h1, by rw [ok.hK]; exact h2, by omega, fun e => ?_, fun e1 e2 => ?_, fun _ _ z hz => q _ _ ?_⟩
      · subst e
        have e2 := List.eq_nil_of_length_eq_zero l1
        subst e2
        exact q _ H (ly.tupSt hS)
      · subst e2
        have e3 := List.eq_nil_of_length_eq_zero l2
        subst e3
        rw [List.append_nil] at q
        exact q _ H (lx.tupSt hS)
      refine St.newTup (by simp [l1, l2]) hz ?_
      rw [show leaf (a ++ b) = leaf a ++ leaf b by simp [leaf], reps_append (by simp [l1])]
      refine s2.perm ?_
      rw [List.append_assoc, ← List.append_assoc]
      exact (List.perm_append_comm.append_right L).trans (.of_eq (by rw [List.append_assoc]))
    · rw [if_neg hz] at hF; cases hF
  · cases hF
theorem ok_sub : OkB Γ (binaryOp .Sub) (w2 fSub) := okB_of fun X ok H L x y d e o hS lx ly hF Q q => by
  unfold fSub at hF
  split at hF
  · have e1 := Option.some.inj hF
    subst e1
    exact ⟨_, op_sub, _, _, lx.int hS, ly.int hS, q _ H (hS.flat rfl)⟩
  · cases hF
theorem ok_mul : OkB Γ (binaryOp .Mult) (w2 fMul) := okB_of fun X ok H L x y d e o hS lx ly hF Q q => by
  unfold fMul at hF
  split at hF
  · rename_i i j
    by_cases hz : (sm64 i || sm64 j) = true
    · rw [if_pos hz] at hF
      have e1 := Option.some.inj hF
      subst e1
      refine ⟨_, op_mul, _, _, lx.int hS, ly.int hS, ?_, q _ H (hS.flat rfl)⟩
      rcases Bool.or_eq_true_iff.mp hz with h | h
      · exact .inl (sm64_lt h)
      · exact .inr (sm64_lt h)
    · rw [if_neg hz] at hF; cases hF
  · rename_i a k
    by_cases hz : -(2 ^ 63) ≤ k ∧ k < 2 ^ 63 ∧ a.length * k.toNat ≤ sizeLine
    · rw [if_pos hz] at hF
      have e1 := Option.some.inj hF
      subst e1
      obtain ⟨p, vs, e1, h1, l1, s1⟩ := Look.lst hS lx
      subst e1
      refine ⟨_, op_repL, p, k, vs, rfl, ly.int hS, by rw [ok.hK]; exact h1, hz.1, hz.2.1, by rw [← l1]; exact hz.2.2, fun z hz => q _ _ ?_⟩
      exact St.newLst (rep_lst l1 _) hz (s1.times l1 _)
    · rw [if_neg hz] at hF; cases hF
  · rename_i a k
    by_cases hz : a ≠ [] ∧ 2 ≤ k ∧ k ≤ 1000 ∧ a.length ≤ 1000
    · rw [if_pos hz] at hF
      have e1 := Option.some.inj hF
      subst e1
      obtain ⟨p, vs, e1, h1, l1, s1⟩ := Look.tup hS lx
      subst e1
      refine ⟨_, op_repT, p, k, vs, rfl, ly.int hS, by rw [ok.hK]; exact h1, fun e => hz.1 ?_, hz.2.1, hz.2.2.1, by rw [← l1]; exact hz.2.2.2, fun z hz => q _ _ ?_⟩
      · subst e
        exact List.eq_nil_of_length_eq_zero l1
      · exact St.newTup (rep_lst l1 _) hz (s1.times l1 _)
    · rw [if_neg hz] at hF; cases hF
  · cases hF
theorem ok_mod : OkB Γ (binaryOp .Mod) (w2 fMod) := okB_of fun X ok H L x y d e o hS lx ly hF Q q => by
  unfold fMod at hF
  split at hF
  · rename_i i j
    by_cases hz : 0 < j
    · rw [if_pos hz] at hF
      have e1 := Option.some.inj hF
      subst e1
      exact ⟨_, op_mod, _, _, lx.int hS, ly.int hS, hz, q _ H (hS.flat rfl)⟩
    · rw [if_neg hz] at hF; cases hF
  · cases hF
theorem ok_div : OkB Γ (binaryOp .FloorDiv) (w2 fDiv) := okB_of fun X ok H L x y d e o hS lx ly hF Q q => by
  unfold fDiv at hF
  split at hF
  · rename_i i j
    by_cases hz : 0 < j ∧ j < 1073741824
    · rw [if_pos hz] at hF
      have e1 := Option.some.inj hF
      subst e1
      exact ⟨_, op_fdiv, _, _, lx.int hS, ly.int hS, hz, q _ H (hS.flat rfl)⟩
    · rw [if_neg hz] at hF; cases hF
  · cases hF
theorem ok_pow : OkB Γ (binaryOp .Pow) (w2 fPow) := okB_of fun X ok H L x y d e o hS lx ly hF Q q => by
  unfold fPow at hF
  split at hF
  · rename_i i j
    by_cases hz : 0 ≤ j ∧ j ≤ 1000000 ∧ i.natAbs < 2 ^ 64
    · rw [if_pos hz] at hF
      have e1 := Option.some.inj hF
      subst e1
      exact ⟨_, op_pow, _, _, lx.int hS, ly.int hS, hz, q _ H (hS.flat rfl)⟩
    · rw [if_neg hz] at hF; cases hF
  · cases hF
theorem ok_neg : OkU Γ (unaryOp .USub) (w1 fNeg) := fun X ok H L x d o hS lx hF Q q => by
  have hF : fNeg d = some o := hF
  unfold fNeg at hF
  split at hF
  · have e1 := Option.some.inj hF
    subst e1
    exact ⟨_, un_neg, _, lx.int hS, q _ H (hS.flat rfl)⟩
  · cases hF

/-! ### comparisons -/
theorem ok_lt : OkB Γ (compareOp .Lt) (bO (w2b fLt)) := okb_of fun X ok H L x y d e k hS lx ly hF Q q => by
  unfold fLt at hF
  split at hF
  · have e1 := Option.some.inj hF
    subst e1
    exact ⟨_, op_lt, _, _, lx.int hS, ly.int hS, q⟩
  · have e1 := Option.some.inj hF
    subst e1
    exact ⟨_, op_lt_str, _, _, lx.str hS, ly.str hS, q⟩
  · cases hF
theorem ok_le : OkB Γ (compareOp .LtE) (bO (w2b fLe)) := okb_of fun X ok H L x y d e k hS lx ly hF Q q => by
  unfold fLe at hF
  split at hF
  · have e1 := Option.some.inj hF
    subst e1
    exact ⟨_, op_le, _, _, lx.int hS, ly.int hS, q⟩
  · have e1 := Option.some.inj hF
    subst e1
    exact ⟨_, op_le_str, _, _, lx.str hS, ly.str hS, q⟩
  · cases hF
theorem ok_gt : OkB Γ (compareOp .Gt) (bO (w2b fGt)) := okb_of fun X ok H L x y d e k hS lx ly hF Q q => by
  unfold fGt at hF
  split at hF
  · have e1 := Option.some.inj hF
    subst e1
    exact ⟨_, op_gt, _, _, lx.int hS, ly.int hS, q⟩
  · have e1 := Option.some.inj hF
    subst e1
    exact ⟨_, op_gt_str, _, _, lx.str hS, ly.str hS, q⟩
  · cases hF
theorem ok_ge : OkB Γ (compareOp .GtE) (bO (w2b fGe)) := okb_of fun X ok H L x y d e k hS lx ly hF Q q => by
  unfold fGe at hF
  split at hF
  · have e1 := Option.some.inj hF
    subst e1
    exact ⟨_, op_ge, _, _, lx.int hS, ly.int hS, q⟩
  · have e1 := Option.some.inj hF
    subst e1
    exact ⟨_, op_ge_str, _, _, lx.str hS, ly.str hS, q⟩
  · cases hF
theorem fEqD_some {a b : D} {k : Bool} (h : fEqD a b = some k) : ∃ p q, a.py = some p ∧ b.py = some q ∧ SeqAt.shaped p = true ∧ SeqAt.shaped q = true ∧ k = PyData.eqv p q := by
  unfold fEqD at h
  cases q1 : a.py with
  | none => rw [q1] at h; cases h
  | some p =>
    cases q2 : b.py with
    | none => rw [q1, q2] at h; cases h
    | some q =>
      rw [q1, q2] at h
      by_cases hz : (SeqAt.shaped p && SeqAt.shaped q) = true
      · simp only [if_pos hz] at h
        obtain ⟨z1, z2⟩ := Bool.and_eq_true_iff.mp hz
        exact ⟨p, q, rfl, rfl, z1, z2, (Option.some.inj h).symm⟩
      · simp only [if_neg hz] at h; cases h
theorem fEq_some {a b : D} {k : Bool} (h : fEq a b = some k) : (∃ x y, a = .str x ∧ b = .str y ∧ k = decide (x = y)) ∨ fEqD a b = some k := by
  unfold fEq at h
  split at h
  · exact .inl ⟨_, _, rfl, rfl, (Option.some.inj h).symm⟩
  all_goals first
    | exact .inr h
    | cases h
theorem ok_eq : OkB Γ (compareOp .Eq) (bO (w2b fEq)) := okb_of fun X ok H L x y d e k hS lx ly hF Q q => by
  rcases fEq_some hF with ⟨a, b, rfl, rfl, e1⟩ | hF
  · subst e1
    have ex := lx.str hS
    have ey := ly.str hS
    subst ex ey
    refine ⟨_, op_eq, rfl, ?_⟩
    have e : decide (V.str a = V.str b) = decide (a = b) := by by_cases h : a = b <;> simp [h]
    rw [e]; exact q
  · obtain ⟨p, r, h1, h2, h3, h4, e1⟩ := fEqD_some hF
    subst e1
    exact ⟨_, op_eqD ok.room.units, p, r, by rw [ok.hK]; exact rep_dp (lx.rep hS) h1, by rw [ok.hK]; exact rep_dp (ly.rep hS) h2, h3, h4, q⟩
theorem ok_ne : OkB Γ (compareOp .NotEq) (bO (w2b fNe)) := okb_of fun X ok H L x y d e k hS lx ly hF Q q => by
  unfold fNe at hF
  cases q1 : fEq d e with
  | none => rw [q1] at hF; cases hF
  | some k1 =>
    rw [q1] at hF
    have e2 := Option.some.inj hF
    subst e2
    rcases fEq_some q1 with ⟨a, b, rfl, rfl, e1⟩ | hF
    · subst e1
      have ex := lx.str hS
      have ey := ly.str hS
      subst ex ey
      refine ⟨_, op_ne, rfl, ?_⟩
      have e : decide (V.str a = V.str b) = decide (a = b) := by by_cases h : a = b <;> simp [h]
      rw [e]; exact q
    · obtain ⟨p, r, h1, h2, h3, h4, e1⟩ := fEqD_some hF
      subst e1
      exact ⟨_, op_neD ok.room.units, p, r, by rw [ok.hK]; exact rep_dp (lx.rep hS) h1, by rw [ok.hK]; exact rep_dp (ly.rep hS) h2, h3, h4, q⟩
theorem isn_tr {K : PySem.W.Frag} {H : Hp} {d : D} {x : V} (r : Rep K H d x) (h : d ≠ .non) : decide (x = .non) = false := by
  refine decide_eq_false fun e => ?_
  subst e
  cases d with
  | non => exact h rfl
  | bl b => rw [Rep] at r; cases r
  | int b => rw [Rep] at r; cases r
  | str b => rw [Rep] at r; cases r
  | tup l => rw [Rep] at r; obtain ⟨a, vs, e, _⟩ := r; cases e
  | lst l => rw [Rep] at r; obtain ⟨a, vs, e, _⟩ := r; cases e
  | dct l => rw [Rep] at r; obtain ⟨a, vs, e, _⟩ := r; cases e
  | obj C n l => rw [Rep] at r; obtain ⟨a, dx, vs, e, _⟩ := r; cases e
theorem ok_is : OkB Γ (compareOp .Is) (bO (w2b fIs)) := okb_of fun X ok H L x y d e k hS lx ly hF Q q => by
  have key : d ≠ .non → e = .non → k = false → WO X (compareOp .Is) x y H Q := fun hd he hk => by
    subst he hk
    exact ⟨_, op_isN, ly.non hS, by rw [isn_tr (lx.rep hS) hd]; exact q⟩
  unfold fIs at hF
  split at hF
  · have e1 := Option.some.inj hF
    subst e1
    exact ⟨_, op_isN, ly.non hS, by rw [decide_eq_true (lx.non hS)]; exact q⟩
  · have e1 := Option.some.inj hF
    subst e1
    exact ⟨_, op_isBl, _, _, lx.bl hS, ly.bl hS, q⟩
  all_goals first
    | exact key (fun z => nomatch z) rfl (Option.some.inj hF).symm
    | cases hF
theorem ok_isN : OkB Γ (compareOp .IsNot) (bO (w2b fIsN)) := okb_of fun X ok H L x y d e k hS lx ly hF Q q => by
  unfold fIsN at hF
  cases q1 : fIs d e with
  | none => rw [q1] at hF; cases hF
  | some k1 =>
    rw [q1] at hF
    have e2 := Option.some.inj hF
    subst e2
    have key : d ≠ .non → e = .non → k1 = false → WO X (compareOp .IsNot) x y H Q := fun hd he hk => by
      subst he hk
      exact ⟨_, op_notN, ly.non hS, by rw [isn_tr (lx.rep hS) hd]; exact q⟩
    unfold fIs at q1
    split at q1
    · have e1 := Option.some.inj q1
      subst e1
      exact ⟨_, op_notN, ly.non hS, by rw [decide_eq_true (lx.non hS)]; exact q⟩
    · have e1 := Option.some.inj q1
      subst e1
      exact ⟨_, op_notBl, _, _, lx.bl hS, ly.bl hS, q⟩
    all_goals first
      | exact key (fun z => nomatch z) rfl (Option.some.inj q1).symm
      | cases q1
section
variable {X : Cx}
def rInT (K : PySem.W.Frag) (neg : Bool) : R2 := fun x y H Q => ∃ d ds, Dp K H x d ∧ Dp K H y (.tuple ds) ∧ SeqAt.shaped d = true ∧ SeqAt.shaped (.list ds) = true ∧ Q (.bl (if neg = true then !ds.any fun z => PyData.eqv z d else ds.any fun z => PyData.eqv z d)) H
theorem op_inT (hu : X.A.units + 65 < cLine) : OpR X (compareOp .In) (rInT X.K false) := by
  intro pins s σ H x y v u Q I rx ry h
  obtain ⟨d, ds, hd, he, sd, se, q⟩ := h
  obtain ⟨as, r1⟩ := Dp.reads I d x v hd rx
  obtain ⟨bs, r2⟩ := Dp.reads I (.tuple ds) y u he ry
  have hc : PyData.canLayAll0 ds = true := by
    have z := SeqAt.canLay_of_shaped se
    rw [PyData.canLay0] at z; exact z
  exact SeqAt.in_tuple_reads r2 r1 hc (SeqAt.canLay_of_shaped sd) (room_in_shaped sd hu) ⟨.bl _, H, I, rfl, q⟩
theorem op_notInT (hu : X.A.units + 65 < cLine) : OpR X (compareOp .NotIn) (rInT X.K true) := by
  intro pins s σ H x y v u Q I rx ry h
  obtain ⟨d, ds, hd, he, sd, se, q⟩ := h
  obtain ⟨as, r1⟩ := Dp.reads I d x v hd rx
  obtain ⟨bs, r2⟩ := Dp.reads I (.tuple ds) y u he ry
  have hc : PyData.canLayAll0 ds = true := by
    have z := SeqAt.canLay_of_shaped se
    rw [PyData.canLay0] at z; exact z
  exact SeqAt.notIn_tuple_reads r2 r1 hc (SeqAt.canLay_of_shaped sd) (room_in_shaped sd hu) ⟨.bl _, H, I, rfl, q⟩
end
theorem pys_tup {l : List D} {r : List PyData} (h : D.pys l = some r) : D.py (.tup l) = some (.tuple r) ∧ D.py (.lst l) = some (.list r) := by
  constructor
  · rw [D.py, h]
  · rw [D.py, h]
theorem ok_in : OkB Γ (compareOp .In) (bO (w2b fIn)) := okb_of fun X ok H L x y d e k hS lx ly hF Q q => by
  have hu : X.A.units + 65 < cLine := by have := ok.room.un; omega
  unfold fIn at hF
  split at hF
  · have e1 := Option.some.inj hF
    subst e1
    exact ⟨_, op_in_str, _, _, lx.str hS, ly.str hS, q⟩
  · rename_i l
    cases q1 : d.py with
    | none => rw [q1] at hF; cases hF
    | some p =>
      cases q2 : D.pys l with
      | none => rw [q1, q2] at hF; cases hF
      | some r =>
        rw [q1, q2] at hF
        by_cases hz : (SeqAt.shaped p && SeqAt.shaped (.list r)) = true
        · simp only [if_pos hz] at hF
          have e1 := Option.some.inj hF
          subst e1
          obtain ⟨z1, z2⟩ := Bool.and_eq_true_iff.mp hz
          exact ⟨_, op_inD hu, p, r, by rw [ok.hK]; exact rep_dp (lx.rep hS) q1, by rw [ok.hK]; exact rep_dp (ly.rep hS) (pys_tup q2).2, z1, z2, q⟩
        · simp only [if_neg hz] at hF; cases hF
  · rename_i l
    cases q1 : d.py with
    | none => rw [q1] at hF; cases hF
    | some p =>
      cases q2 : D.pys l with
      | none => rw [q1, q2] at hF; cases hF
      | some r =>
        rw [q1, q2] at hF
        by_cases hz : (SeqAt.shaped p && SeqAt.shaped (.list r)) = true
        · simp only [if_pos hz] at hF
          have e1 := Option.some.inj hF
          subst e1
          obtain ⟨z1, z2⟩ := Bool.and_eq_true_iff.mp hz
          exact ⟨_, op_inT hu, p, r, by rw [ok.hK]; exact rep_dp (lx.rep hS) q1, by rw [ok.hK]; exact rep_dp (ly.rep hS) (pys_tup q2).1, z1, z2, q⟩
        · simp only [if_neg hz] at hF; cases hF
  · cases hF
theorem ok_notIn : OkB Γ (compareOp .NotIn) (bO (w2b fNotIn)) := okb_of fun X ok H L x y d e k hS lx ly hF Q q => by
  have hu : X.A.units + 65 < cLine := by have := ok.room.un; omega
  unfold fNotIn at hF
  cases q0 : fIn d e with
  | none => rw [q0] at hF; cases hF
  | some k1 =>
    rw [q0] at hF
    have e2 := Option.some.inj hF
    subst e2
    unfold fIn at q0
    split at q0
    · have e1 := Option.some.inj q0
      subst e1
      exact ⟨_, op_notin_str, _, _, lx.str hS, ly.str hS, q⟩
    · rename_i l
      cases q1 : d.py with
      | none => rw [q1] at q0; cases q0
      | some p =>
        cases q2 : D.pys l with
        | none => rw [q1, q2] at q0; cases q0
        | some r =>
          rw [q1, q2] at q0
          by_cases hz : (SeqAt.shaped p && SeqAt.shaped (.list r)) = true
          · simp only [if_pos hz] at q0
            have e1 := Option.some.inj q0
            subst e1
            obtain ⟨z1, z2⟩ := Bool.and_eq_true_iff.mp hz
            exact ⟨_, op_notInD hu, p, r, by rw [ok.hK]; exact rep_dp (lx.rep hS) q1, by rw [ok.hK]; exact rep_dp (ly.rep hS) (pys_tup q2).2, z1, z2, q⟩
          · simp only [if_neg hz] at q0; cases q0
    · rename_i l
      cases q1 : d.py with
      | none => rw [q1] at q0; cases q0
      | some p =>
        cases q2 : D.pys l with
        | none => rw [q1, q2] at q0; cases q0
        | some r =>
          rw [q1, q2] at q0
          by_cases hz : (SeqAt.shaped p && SeqAt.shaped (.list r)) = true
          · simp only [if_pos hz] at q0
            have e1 := Option.some.inj q0
            subst e1
            obtain ⟨z1, z2⟩ := Bool.and_eq_true_iff.mp hz
            exact ⟨_, op_notInT hu, p, r, by rw [ok.hK]; exact rep_dp (lx.rep hS) q1, by rw [ok.hK]; exact rep_dp (ly.rep hS) (pys_tup q2).1, z1, z2, q⟩
          · simp only [if_neg hz] at q0; cases q0
    · cases q0
/-! ### x[i] -/
theorem ok_ix : OkX Γ (w2 fIx) := fun X ok H L x y d e o hS lx ly hF Q q => by
  have hF : fIx d e = some o := hF
  unfold fIx at hF
  split at hF
  · rename_i l k _
    cases q1 : ixN l.length k with
    | none => rw [q1] at hF; cases hF
    | some j =>
      rw [q1] at hF
      cases q2 : l[j]? with
      | none => simp only [q2] at hF; cases hF
      | some z =>
        simp only [q2] at hF
        have e1 := Option.some.inj hF
        subst e1
        obtain ⟨p, vs, e1, h1, l1, s1⟩ := Look.lst hS lx
        obtain ⟨v, g1, g2⟩ := reps_at l1 q2
        exact ⟨_, ix_list, p, vs, k, v, e1, ly.int hS, by rw [ok.hK]; exact h1, atI_of l1.symm q1 g1, q v H (s1.pick g2)⟩
  · rename_i l k _
    cases q1 : ixN l.length k with
    | none => rw [q1] at hF; cases hF
    | some j =>
      rw [q1] at hF
      cases q2 : l[j]? with
      | none => simp only [q2] at hF; cases hF
      | some z =>
        simp only [q2] at hF
        have e1 := Option.some.inj hF
        subst e1
        obtain ⟨p, vs, e1, h1, l1, s1⟩ := Look.tup hS lx
        obtain ⟨v, g1, g2⟩ := reps_at l1 q2
        exact ⟨_, ix_tup, p, vs, k, v, e1, ly.int hS, by rw [ok.hK]; exact h1, atI_of l1.symm q1 g1, q v H (s1.pick g2)⟩
  · rename_i z k _
    by_cases hz : z.length ≤ sizeLine
    · rw [if_pos hz] at hF
      cases q1 : ixN z.cps.toList.length k with
      | none => rw [q1] at hF; cases hF
      | some j =>
        rw [q1] at hF
        cases q2 : z.cps.toList[j]? with
        | none => simp only [q2] at hF; cases hF
        | some c =>
          simp only [q2] at hF
          have e1 := Option.some.inj hF
          subst e1
          refine ⟨_, ix_str, z, k, c, lx.str hS, ly.int hS, hz, ?_, q _ H (hS.flat rfl)⟩
          unfold atI
          rw [q1]; exact q2
    · rw [if_neg hz] at hF; cases hF
  · cases hF
end
end BM

set_option Elab.async false
set_option linter.all false
set_option maxRecDepth 100000
set_option maxHeartbeats 4000000
/-! BM, part 15: built-ins. -/
namespace BM
open PySem PySem.Spec PyProof.Rows L2

/-! ### words -/
def fLen : D → Option O
  | .str x => if x.length ≤ sizeLine then some (.d (.int x.length)) else none
  | .lst l => some (.d (.int l.length))
  | .tup l => some (.d (.int l.length))
  | _ => none
def fList : D → Option O
  | .lst l => some (.lst (leaf l))
  | .tup l => some (.lst (leaf l))
  | _ => none
def fTuple : D → Option O
  | .lst l => some (.d (.tup l))
  | .tup l => some (.d (.tup l))
  | _ => none
def fMin2 : D → D → Option O
  | .int i, .int j => some (.d (.int (if j < i then j else i)))
  | _, _ => none
def fMax2 : D → D → Option O
  | .int i, .int j => some (.d (.int (if j > i then j else i)))
  | _, _ => none
def isBl : D → Bool
  | .bl _ => true
  | _ => false
def blD : D → Bool
  | .bl b => b
  | _ => false
def intD : D → Int
  | .int i => i
  | _ => 0
def strD : D → Str
  | .str x => x
  | _ => Str.empty
def fAny : D → Option O
  | .lst l => if l.all isBl = true then some (.d (.bl (l.any blD))) else none
  | _ => none
def fAll : D → Option O
  | .lst l => if l.all isBl = true then some (.d (.bl (l.all blD))) else none
  | _ => none
def fSum : D → Option O
  | .lst l => if l.all isInt = true then some (.d (.int (l.map intD).sum)) else none
  | _ => none
def fAbs : D → Option O
  | .int i => some (.d (.int (if i < 0 then -i else i)))
  | _ => none
def fInt : D → Option O
  | .int i => some (.d (.int i))
  | .bl k => some (.d (.int (if k = true then 1 else 0)))
  | _ => none
def fStr : D → Option O
  | .int i => if i.natAbs.log2 < 1920 then some (.d (.str (toString i))) else none
  | .str x => some (.d (.str x))
  | _ => none
def pyD (d : D) : PyData := (D.py d).getD .none
def isTupNe : PyData → Bool
  | .tuple (_ :: _) => true
  | _ => false
def isTupNon : PyData → Bool
  | .tuple _ => true
  | .none => true
  | _ => false
/-- what may be sorted -/
def sortOk (l : List D) : Bool := (l.all fun d => (D.py d).isSome) && ((l.map pyD).all fun p => (l.map pyD).all fun q => PySem.W.alike p q) && ((l.map pyD).all isTupNe || (l.map pyD).all fun p => !isTupNon p) && decide (l.length ≤ sizeLine) && (l.map pyD).all fun p => decide (p.depth ≤ 60)
def srtD (l : List D) : List D := l.mergeSort (PySem.W.dataLe false pyD)
def fSorted : D → Option O
  | .lst l => if sortOk l = true then some (.lst (leaf (srtD l))) else none
  | _ => none
def fRepr (d : D) : Option O := match d.py with
  | some p => if (p.showable && !p.hasDict && decide (p.depth ≤ 60) && decide (p.shown.length ≤ sizeLine)) = true then some (.d (.str p.shown)) else none
  | none => none

/-! ### rules -/
section
variable {Γ : Gm}
theorem okC1 {f : Value} {g : D → Option O} (h : ∀ X, Γ.Ok X → ∀ H L x d o, St Γ.cfg.K H L → Look L d x → g d = some o → ∀ Q : VK, (∀ v H', St Γ.cfg.K H' (.rep o v :: L) → Q v H') → WC X f [x] H Q) : OkC Γ f (w1 g) := by
  intro X ok H L vs ds o hS lx hF Q q
  match ds, vs, lx, hF with
  | [d], [x], .cons l1 .nil, hF => exact h X ok H L x d o hS l1 hF Q q
  | [], _, _, hF => cases hF
  | _ :: _ :: _, _, _, hF => cases hF
theorem okC2 {f : Value} {g : D → D → Option O} (h : ∀ X, Γ.Ok X → ∀ H L x y d e o, St Γ.cfg.K H L → Look L d x → Look L e y → g d e = some o → ∀ Q : VK, (∀ v H', St Γ.cfg.K H' (.rep o v :: L) → Q v H') → WC X f [x, y] H Q) : OkC Γ f (w2 g) := by
  intro X ok H L vs ds o hS lx hF Q q
  match ds, vs, lx, hF with
  | [d, e], [x, y], .cons l1 (.cons l2 .nil), hF => exact h X ok H L x y d e o hS l1 l2 hF Q q
  | [], _, _, hF => cases hF
  | [_], _, _, hF => cases hF
  | _ :: _ :: _ :: _, _, _, hF => cases hF
theorem ok_len : OkC Γ (.builtin "len") (w1 fLen) := okC1 fun X ok H L x d o hS lx hF Q q => by
  unfold fLen at hF
  split at hF
  · rename_i z
    by_cases hz : z.length ≤ sizeLine
    · rw [if_pos hz] at hF
      have e1 := Option.some.inj hF
      subst e1
      exact ⟨_, call_len_str, z, by rw [lx.str hS], hz, q _ H (hS.flat rfl)⟩
    · rw [if_neg hz] at hF; cases hF
  · have e1 := Option.some.inj hF
    subst e1
    obtain ⟨p, vs, e1, h1, l1, s1⟩ := Look.lst hS lx
    subst e1
    exact ⟨_, call_len_seq, p, vs, rfl, .inl (by rw [ok.hK]; exact h1), q _ H (by rw [← l1]; exact hS.flat rfl)⟩
  · have e1 := Option.some.inj hF
    subst e1
    obtain ⟨p, vs, e1, h1, l1, s1⟩ := Look.tup hS lx
    subst e1
    exact ⟨_, call_len_seq, p, vs, rfl, .inr (by rw [ok.hK]; exact h1), q _ H (by rw [← l1]; exact hS.flat rfl)⟩
  · cases hF
theorem ok_list : OkC Γ (.type "list") (w1 fList) := okC1 fun X ok H L x d o hS lx hF Q q => by
  unfold fList at hF
  split at hF
  · have e1 := Option.some.inj hF
    subst e1
    obtain ⟨p, vs, e1, h1, l1, s1⟩ := Look.lst hS lx
    subst e1
    exact ⟨_, call_list_of, p, vs, rfl, .inl (by rw [ok.hK]; exact h1), fun z hz => q _ _ (St.newLst l1 hz s1)⟩
  · have e1 := Option.some.inj hF
    subst e1
    obtain ⟨p, vs, e1, h1, l1, s1⟩ := Look.tup hS lx
    subst e1
    exact ⟨_, call_list_of, p, vs, rfl, .inr (by rw [ok.hK]; exact h1), fun z hz => q _ _ (St.newLst l1 hz s1)⟩
  · cases hF
theorem ok_tuple : OkC Γ (.type "tuple") (w1 fTuple) := okC1 fun X ok H L x d o hS lx hF Q q => by
  unfold fTuple at hF
  split at hF
  · have e1 := Option.some.inj hF
    subst e1
    obtain ⟨p, vs, e1, h1, l1, s1⟩ := Look.lst hS lx
    subst e1
    exact ⟨_, call_tuple_of, p, vs, rfl, .inl ⟨by rw [ok.hK]; exact h1, fun z hz => q _ _ (St.newTup l1 hz s1)⟩⟩
  · have e1 := Option.some.inj hF
    subst e1
    obtain ⟨p, vs, e1, h1, l1, s1⟩ := Look.tup hS lx
    subst e1
    exact ⟨_, call_tuple_of, p, vs, rfl, .inr ⟨by rw [ok.hK]; exact h1, q _ H (lx.tupSt hS)⟩⟩
  · cases hF
theorem ok_min2 : OkC Γ (.builtin "min") (w2 fMin2) := okC2 fun X ok H L x y d e o hS lx ly hF Q q => by
  unfold fMin2 at hF
  split at hF
  · have e1 := Option.some.inj hF
    subst e1
    exact ⟨_, call_min2 ok.calm, _, _, by rw [lx.int hS, ly.int hS], q _ H (hS.flat rfl)⟩
  · cases hF
theorem ok_max2 : OkC Γ (.builtin "max") (w2 fMax2) := okC2 fun X ok H L x y d e o hS lx ly hF Q q => by
  unfold fMax2 at hF
  split at hF
  · have e1 := Option.some.inj hF
    subst e1
    exact ⟨_, call_max2 ok.calm, _, _, by rw [lx.int hS, ly.int hS], q _ H (hS.flat rfl)⟩
  · cases hF
theorem ok_abs : OkC Γ (.builtin "abs") (w1 fAbs) := okC1 fun X ok H L x d o hS lx hF Q q => by
  unfold fAbs at hF
  split at hF
  · have e1 := Option.some.inj hF
    subst e1
    exact ⟨_, call_abs, _, by rw [lx.int hS], q _ H (hS.flat rfl)⟩
  · cases hF
theorem ok_int : OkC Γ (.type "int") (w1 fInt) := okC1 fun X ok H L x d o hS lx hF Q q => by
  unfold fInt at hF
  split at hF
  · have e1 := Option.some.inj hF
    subst e1
    exact ⟨_, call_int1, .inl ⟨_, by rw [lx.int hS], q _ H (hS.flat rfl)⟩⟩
  · have e1 := Option.some.inj hF
    subst e1
    exact ⟨_, call_int1, .inr ⟨_, by rw [lx.bl hS], q _ H (hS.flat rfl)⟩⟩
  · cases hF
theorem ok_str : OkC Γ (.type "str") (w1 fStr) := okC1 fun X ok H L x d o hS lx hF Q q => by
  unfold fStr at hF
  split at hF
  · rename_i i
    by_cases hz : i.natAbs.log2 < 1920
    · rw [if_pos hz] at hF
      have e1 := Option.some.inj hF
      subst e1
      exact ⟨_, call_str_int, _, by rw [lx.int hS], hz, q _ H (hS.flat rfl)⟩
    · rw [if_neg hz] at hF; cases hF
  · have e1 := Option.some.inj hF
    subst e1
    exact ⟨_, SkE.call_str_str, _, by rw [lx.str hS], q _ H (hS.flat rfl)⟩
  · cases hF
theorem reps_bls {K : PySem.W.Frag} {H : Hp} : ∀ {l : List D} {vs : List V}, l.all isBl = true → Reps K H l vs → vs = (l.map blD).map V.bl
  | [], vs, _, r => by rw [Reps] at r; exact r
  | d :: l, vs, h, r => by
    rw [Reps] at r
    obtain ⟨v, r', e, h1, h2⟩ := r
    have h' : isBl d = true ∧ l.all isBl = true := by simpa using h
    subst e
    cases d with
    | bl b =>
      rw [Rep] at h1
      subst h1
      rw [reps_bls h'.2 h2]; rfl
    | _ => cases h'.1
theorem reps_ints {K : PySem.W.Frag} {H : Hp} : ∀ {l : List D} {vs : List V}, l.all isInt = true → Reps K H l vs → vs = (l.map intD).map V.int
  | [], vs, _, r => by rw [Reps] at r; exact r
  | d :: l, vs, h, r => by
    rw [Reps] at r
    obtain ⟨v, r', e, h1, h2⟩ := r
    have h' : isInt d = true ∧ l.all isInt = true := by simpa using h
    subst e
    cases d with
    | int b =>
      rw [Rep] at h1
      subst h1
      rw [reps_ints h'.2 h2]; rfl
    | _ => cases h'.1
theorem Look.lstR {K : PySem.W.Frag} {H : Hp} {L : List It} {l : List D} {x : V} (k : Look L (.lst l) x) (h : St K H L) : ∃ a vs, x = .ref a ∧ SqL K H a vs ∧ Reps K H l vs := by
  have r := k.rep h
  rw [Rep] at r; exact r
theorem ok_any : OkC Γ (.builtin "any") (w1 fAny) := okC1 fun X ok H L x d o hS lx hF Q q => by
  unfold fAny at hF
  split at hF
  · rename_i l
    by_cases hz : l.all isBl = true
    · rw [if_pos hz] at hF
      have e1 := Option.some.inj hF
      subst e1
      obtain ⟨a, vs, e, h1, h2⟩ := lx.lstR hS
      have e2 := reps_bls hz h2
      subst e e2
      exact ⟨_, cr_any ok.calm, a, l.map blD, rfl, by rw [ok.hK]; exact h1, q _ H (by rw [List.any_map]; exact hS.flat rfl)⟩
    · rw [if_neg hz] at hF; cases hF
  · cases hF
theorem ok_all : OkC Γ (.builtin "all") (w1 fAll) := okC1 fun X ok H L x d o hS lx hF Q q => by
  unfold fAll at hF
  split at hF
  · rename_i l
    by_cases hz : l.all isBl = true
    · rw [if_pos hz] at hF
      have e1 := Option.some.inj hF
      subst e1
      obtain ⟨a, vs, e, h1, h2⟩ := lx.lstR hS
      have e2 := reps_bls hz h2
      subst e e2
      exact ⟨_, cr_all ok.calm, a, l.map blD, rfl, by rw [ok.hK]; exact h1, q _ H (by rw [List.all_map]; exact hS.flat rfl)⟩
    · rw [if_neg hz] at hF; cases hF
  · cases hF
theorem ok_sum : OkC Γ (.builtin "sum") (w1 fSum) := okC1 fun X ok H L x d o hS lx hF Q q => by
  unfold fSum at hF
  split at hF
  · rename_i l
    by_cases hz : l.all isInt = true
    · rw [if_pos hz] at hF
      have e1 := Option.some.inj hF
      subst e1
      obtain ⟨a, vs, e, h1, h2⟩ := lx.lstR hS
      have e2 := reps_ints hz h2
      subst e e2
      exact ⟨_, cr_sum ok.calm, a, l.map intD, rfl, by rw [ok.hK]; exact h1, q _ H (hS.flat rfl)⟩
    · rw [if_neg hz] at hF; cases hF
  · cases hF
/-! ### repr -/
section
variable {X : Cx}
def rReprD (K : PySem.W.Frag) : List V → Hp → VK → Prop := fun vs H Q => ∃ x p, vs = [x] ∧ Dp K H x p ∧ p.showable = true ∧ p.hasDict = false ∧ p.shown.length ≤ sizeLine ∧ p.depth ≤ 60 ∧ Q (.str p.shown) H
theorem cr_reprD (hg : X.A.guards = some []) (hu : X.A.units + 64 < cLine) : CallR X (.builtin "repr") (rReprD X.K) := by
  intro pins s σ H vs us Q I r h
  obtain ⟨x, p, rfl, hp, hs, hd, hz, hdp, q⟩ := h
  cases r with
  | cons r1 r2 =>
    rename_i u ut
    cases r2
    obtain ⟨as, rd⟩ := Dp.reads I p x u hp r1
    have big : isDisplay p = true → wpAny (model X.prog X.w) X.A (call (.builtin "repr") [u]) (EP X pins σ Q) X.xe s := fun hdis => by
      obtain ⟨a, rfl⟩ := isRef_of_reads rd hdis
      exact repr_of_reads' rd hs (PyData.noDict_hsm hd) hg (by omega) (fun _ _ e => e) (fun h' u tk hk => ⟨.str _, H, I.kept (t' := tk) hk, ⟨u, rfl⟩, q⟩) hz
    cases p with
    | list l => exact big rfl
    | tuple l => exact big rfl
    | dict l => cases hp
    | none =>
      cases rd
      exact PySem.P.repr_of_none ⟨.str _, H, I.tok _, ⟨_, rfl⟩, by simpa only [PyData.shown] using q⟩
    | bool b =>
      cases rd
      exact PySem.P.repr_of_bool ⟨.str _, H, I.tok _, ⟨_, rfl⟩, by simpa only [PyData.shown] using q⟩
    | int i =>
      cases rd
      exact PySem.P.repr_of_int (by simpa [PyData.showable] using hs) ⟨.str _, H, I.tok _, ⟨_, rfl⟩, by simpa only [PyData.shown] using q⟩
    | str y =>
      cases rd
      exact PySem.P.repr_of_str ⟨.str _, H, I.tok _, ⟨_, rfl⟩, by simpa only [PyData.shown] using q⟩ (by simpa only [PyData.shown] using hz)
end
theorem ok_repr : OkC Γ (.builtin "repr") (w1 fRepr) := okC1 fun X ok H L x d o hS lx hF Q q => by
  unfold fRepr at hF
  cases q1 : d.py with
  | none => rw [q1] at hF; cases hF
  | some p =>
    rw [q1] at hF
    by_cases hz : (p.showable && !p.hasDict && decide (p.depth ≤ 60) && decide (p.shown.length ≤ sizeLine)) = true
    · simp only [if_pos hz] at hF
      have e1 := Option.some.inj hF
      subst e1
      simp only [Bool.and_eq_true, decide_eq_true_eq, Bool.not_eq_true'] at hz
      obtain ⟨⟨⟨z1, z2⟩, z3⟩, z4⟩ := hz
      exact ⟨_, cr_reprD ok.gd ok.room.units, x, p, rfl, by rw [ok.hK]; exact rep_dp (lx.rep hS) q1, z1, z2, z4, z3, q _ H (hS.flat rfl)⟩
    · simp only [if_neg hz] at hF; cases hF
/-! ### sorted -/
section
variable {X : Cx}
theorem each_zip {R : Value → D × V → Prop} : ∀ {ds : List D} {xs : List V} {us : List Value}, Vals xs us → ds.length = xs.length → (∀ (d : D) (x : V) (u : Value), (d, x) ∈ ds.zip xs → RelV x u → R u (d, x)) → PySem.W.EachIs R us (ds.zip xs)
  | [], [], us, rv, _, _ => by cases rv; exact .nil
  | d :: ds, x :: xs, us, rv, hl, h => by
    cases rv with
    | cons r rs => exact .cons (h d x _ List.mem_cons_self r) (each_zip rs (by simpa using hl) fun d x u hm r => h d x u (List.mem_cons_of_mem _ hm) r)
  | [], _ :: _, _, _, hl, _ => by cases hl
  | _ :: _, [], _, _, hl, _ => by cases hl
theorem vals_each : ∀ {us : List Value} {ps : List (D × V)}, PySem.W.EachIs (fun u p => RelV p.2 u) us ps → Vals (ps.map (·.2)) us
  | us, [], h => by cases h; exact .nil
  | us, p :: ps, h => by
    cases h with
    | cons h hs => exact .cons h (vals_each hs)
theorem reps_mem {K : PySem.W.Frag} {H : Hp} : ∀ {ds : List D} {xs : List V} {d : D} {x : V}, Reps K H ds xs → (d, x) ∈ ds.zip xs → Rep K H d x
  | [], xs, d, x, _, h => by simp at h
  | e :: ds, xs, d, x, r, h => by
    rw [Reps] at r
    obtain ⟨v, r', e1, h1, h2⟩ := r
    subst e1
    rcases List.mem_cons.mp h with e2 | h
    · cases e2; exact h1
    · exact reps_mem h2 h
theorem pyD_some {d : D} {p : PyData} (h : D.py d = some p) : pyD d = p := by unfold pyD; rw [h]; rfl
theorem map_fst_zip {ds : List D} {xs : List V} (hl : ds.length = xs.length) : (ds.zip xs).map (fun p => pyD p.1) = ds.map pyD := by
  have e : (ds.zip xs).map (fun p => pyD p.1) = ((ds.zip xs).map (·.1)).map pyD := by rw [List.map_map]; rfl
  rw [e, List.map_fst_zip (by omega)]
def srtP (ps : List (D × V)) : List (D × V) := ps.mergeSort (PySem.W.dataLe false fun p => pyD p.1)
theorem srtP_fst {ds : List D} {xs : List V} (hl : ds.length = xs.length) : (srtP (ds.zip xs)).map (·.1) = srtD ds := by
  unfold srtP srtD
  rw [List.map_mergeSort (r := PySem.W.dataLe false fun p : D × V => pyD p.1) (s := PySem.W.dataLe false pyD) (f := fun p : D × V => p.1) (fun _ _ _ _ => rfl), List.map_fst_zip (by omega)]
theorem srtP_perm (ps : List (D × V)) : (srtP ps).Perm ps := List.mergeSort_perm _ _
def rSortD (K : PySem.W.Frag) : List V → Hp → VK → Prop := fun vs H Q => ∃ (a : Addr) (xs : List V) (ds : List D), vs = [V.ref a] ∧ SqL K H a xs ∧ Reps K H ds xs ∧ sortOk ds = true ∧ ∀ p, H p = none → Q (.ref p) (upd H p (.lst ((srtP (ds.zip xs)).map (·.2))))
theorem tupNe_ex {p : PyData} (h : isTupNe p = true) : ∃ x r, p = .tuple (x :: r) := by
  unfold isTupNe at h
  split at h
  · exact ⟨_, _, rfl⟩
  · cases h
theorem tupNon_no {p : PyData} (h : (!isTupNon p) = true) : p ≠ .none ∧ ∀ xs, p ≠ .tuple xs := by
  constructor
  · intro e; subst e; cases h
  · intro xs e; subst e; cases h
theorem cr_sortD (hu : X.A.units + 64 < cLine) : CallR X (.builtin "sorted") (rSortD X.K) := by
  intro pins s σ H vs us Q I r h
  obtain ⟨a, xs, ds, rfl, hs, hR, hok, q⟩ := h
  obtain ⟨its, rv, hl, hz⟩ := I.list hs
  rw [Vals.ref1 r]
  have hlen : ds.length = xs.length := hR.length
  unfold sortOk at hok
  simp only [Bool.and_eq_true, decide_eq_true_eq, List.all_eq_true, Bool.or_eq_true] at hok
  obtain ⟨⟨⟨⟨h1, h2⟩, h3⟩, h4⟩, h5⟩ := hok
  have hpy : ∀ d ∈ ds, D.py d = some (pyD d) := fun d hd => by
    have z := h1 d hd
    unfold pyD
    cases q : D.py d with
    | none => rw [q] at z; cases z
    | some p => rfl
  refine PySem.W.sorted_data (bs := ds.zip xs) (enc := fun p => pyD p.1) (R := fun u p => RelV p.2 u) hl.isList (each_zip rv hlen fun d x u hm hr => hr) (each_zip rv hlen fun d x u hm hr => ?_) ?_ ?_ ?_ (fun b hb => ?_) fun out ho eo => ?_
  · exact Dp.reads I (pyD d) x u (rep_dp (reps_mem hR hm) (hpy d (List.of_mem_zip hm).1)) hr
  · rw [map_fst_zip hlen]
    exact fun p hp q hq => h2 p hp q hq
  · rw [map_fst_zip hlen]
    rcases h3 with h3 | h3
    · exact .inl fun p hp => tupNe_ex (h3 p hp)
    · exact .inr fun p hp => tupNon_no (h3 p hp)
  · rw [List.length_zip, hlen, Nat.min_self]; exact hz
  · obtain ⟨d, x⟩ := b
    have z := h5 (pyD d) (List.mem_map.mpr ⟨d, (List.of_mem_zip hb).1, rfl⟩)
    show X.A.units + 2 + (pyD d).depth < cLine
    omega
  · obtain ⟨ep, he'⟩ := PyProof.Rows.sortedAll_at s.heap its out.toArray
    have ev := vals_each eo
    have hlo : ((srtP (ds.zip xs)).map (·.2)).length ≤ sizeLine := by
      rw [List.length_map, (srtP_perm _).length_eq, List.length_zip, hlen, Nat.min_self]; exact hz
    exact ⟨.ref _, upd H (s.heap.objs.size + 1) (.lst ((srtP (ds.zip xs)).map (·.2))), I.laid (t' := s.toks) (fun _ _ => PyProof.Rows.sortedAll_old) (Nat.le_succ _) ⟨hlo, out, ep, ev, he'⟩, rfl, q _ (I.hok.fresh (Nat.le_succ _))⟩
end
theorem reps_zip : ∀ {ds : List D} {vs : List V}, ds.length = vs.length → reps (leaf ds) vs = (ds.zip vs).map fun p => It.rep (.d p.1) p.2
  | [], [], _ => rfl
  | d :: ds, v :: vs, h => by
    show It.rep (.d d) v :: reps (leaf ds) vs = It.rep (.d d) v :: (ds.zip vs).map _
    rw [reps_zip (by simpa using h)]
  | [], _ :: _, h => by cases h
  | _ :: _, [], h => by cases h
theorem St.repsH {K : PySem.W.Frag} {H : Hp} {L : List It} : ∀ {ds : List D} {vs : List V}, ds.length = vs.length → St K H (reps (leaf ds) vs ++ L) → Reps K H ds vs
  | [], [], _, _ => by rw [Reps]
  | d :: ds, v :: vs, h, hS => by
    have hS : St K H (.rep (.d d) v :: (reps (leaf ds) vs ++ L)) := hS
    rw [Reps]
    exact ⟨v, vs, rfl, hS.repH, St.repsH (by simpa using h) hS.drop⟩
  | [], _ :: _, h, _ => by cases h
  | _ :: _, [], h, _ => by cases h
theorem ok_sorted : OkC Γ (.builtin "sorted") (w1 fSorted) := okC1 fun X ok H L x d o hS lx hF Q q => by
  unfold fSorted at hF
  split at hF
  · rename_i l
    by_cases hz : sortOk l = true
    · rw [if_pos hz] at hF
      have e1 := Option.some.inj hF
      subst e1
      obtain ⟨a, xs, e, h1, l1, s1⟩ := Look.lst hS lx
      subst e
      have hR := St.repsH l1 s1
      refine ⟨_, cr_sortD ok.room.units, a, xs, l, rfl, by rw [ok.hK]; exact h1, by rw [ok.hK]; exact hR, hz, fun p hp => q _ _ ?_⟩
      have ef : srtD l = (srtP (l.zip xs)).map (·.1) := (srtP_fst l1).symm
      rw [ef]
      refine St.newLst (by rw [List.length_map, List.length_map]) hp ?_
      rw [reps_zip (by rw [List.length_map, List.length_map])]
      rw [reps_zip l1] at s1
      refine s1.perm (List.Perm.append_right L ?_)
      rw [show ((srtP (l.zip xs)).map (·.1)).zip ((srtP (l.zip xs)).map (·.2)) = srtP (l.zip xs) from (List.zip_of_prod rfl rfl).symm]
      exact ((srtP_perm _).map _).symm
    · rw [if_neg hz] at hF; cases hF
  · cases hF
end
end BM

set_option Elab.async false
set_option linter.all false
set_option maxRecDepth 100000
set_option maxHeartbeats 4000000
/-! BM, part 16: shorter words. -/
namespace BM
open PySem PySem.Spec PyProof.Rows L2
/-- a name as a place -/
def mPl (i : Nat) : M Od := fun s => match s[i]? with
  | some (some o) => some (.plc i, s)
  | _ => none
def iS (m : M O) : M (List D) := fun s => match m s with
  | some (o, s') => match listOfD o.toD with
    | some l => some (l, s')
    | none => none
  | none => none
def gTpS (gs : List (D → M Unit)) : D → M Unit := fun d => match listOfD d with
  | some ds => gTs gs ds
  | none => mfail
def mRev (m : M O) : M O := fun s => match m s with
  | some (o, s') => (match o.toD with
    | .lst l => some (.lst (leaf l.reverse), s')
    | _ => none)
  | none => none
theorem zip_rev {α β : Type} : ∀ {a : List α} {b : List β}, a.length = b.length → a.reverse.zip b.reverse = (a.zip b).reverse
  | [], [], _ => rfl
  | x :: a, y :: b, h => by
    have h' : a.length = b.length := by simpa using h
    rw [List.reverse_cons, List.reverse_cons, List.zip_append (by simp [h']), zip_rev h', List.zip_cons_cons, List.zip_cons_cons, List.reverse_cons]; rfl
  | [], _ :: _, h => by cases h
  | _ :: _, [], h => by cases h
section
variable {Γ : Gm} {e tg : Expr} {p pos p1 p2 p3 : Pos} {x : Str} {m : M O}
theorem sod_pl (i : Nat) (hN : Γ.N[i]? = some x := by rfl) (hv : Γ.vis x = true := by kernel_rfl) (hd : (x == ("__debug__" : Str)) = false := by kernel_rfl) (hcd : (x == ("__classdict__" : Str)) = false := by kernel_rfl) : Sod Γ (.Name x p) (mPl i) := sod_plc i hN hv hd hcd
theorem si_seq (h : Sd Γ e m) : Si Γ tg e (iS m) := ⟨fun X ok env ds env' hm σ H T hr R q => by
  unfold iS at hm
  cases q1 : m env with
  | none => rw [q1] at hm; cases hm
  | some r =>
    obtain ⟨o, s1⟩ := r
    rw [q1] at hm
    cases q2 : o.toD with
    | lst l =>
      simp only [q2, listOfD] at hm
      refine (si_list h).run X ok env ds env' ?_ σ H T hr R q
      unfold iL
      simp only [q1, q2]
      exact hm
    | tup l =>
      simp only [q2, listOfD] at hm
      refine (si_tup h).run X ok env ds env' ?_ σ H T hr R q
      unfold iT
      simp only [q1, q2]
      exact hm
    | non => simp only [q2, listOfD] at hm; cases hm
    | bl _ => simp only [q2, listOfD] at hm; cases hm
    | int _ => simp only [q2, listOfD] at hm; cases hm
    | str _ => simp only [q2, listOfD] at hm; cases hm
    | dct _ => simp only [q2, listOfD] at hm; cases hm
    | obj _ _ _ => simp only [q2, listOfD] at hm; cases hm⟩
theorem sg_tpS {ts : List Expr} {k : Nat} {gs : List (D → M Unit)} {A : List Nat} {n : Nat} (h : Sgs Γ ts gs A) (hl : gs.length = n := by rfl) (hn : ∀ env : PySem.Env, (assignEach ts env).length = n := by intro _; rfl)
    (hst : ∀ env : PySem.Env, (assignEach ts env).findIdx? (·.1) = none := by intro _; rfl) : Sg Γ (.Tuple ts k pos) (gTpS gs) A := ⟨fun X ok env d env' hm σ H T v hr Q q => by
  cases d with
  | tup l => exact (sg_tp h hl hn hst).run X ok env (.tup l) env' hm σ H T v hr Q q
  | lst l => exact (sg_tpL h hl hn hst).run X ok env (.lst l) env' hm σ H T v hr Q q
  | _ => cases hm⟩
theorem sd_rev {k : Nat} (h : Sd Γ e m) : Sd Γ (.Subscript e (.Slice none none (some (.UnaryOp .USub (.Constant (.int 1) k p1) p2)) p3) pos) (mRev m) := ⟨fun X ok env o env' hm σ H T hr Q q => by
  unfold mRev at hm
  cases q1 : m env with
  | none => rw [q1] at hm; cases hm
  | some r =>
    obtain ⟨o1, s1⟩ := r
    simp only [q1] at hm
    cases q2 : o1.toD with
    | lst l =>
      simp only [q2] at hm
      have e1 := Option.some.inj hm
      injection e1 with e1 e2
      subst e1 e2
      refine ⟨_, pe_revL (pe_best X e), h.run X ok env o1 s1 q1 σ H T hr _ fun v H' r => ?_⟩
      have r := r.freeze
      rw [q2] at r
      obtain ⟨L, hE, hS⟩ := r
      obtain ⟨a, vs, e1, h1, l1, s1'⟩ := St.read_lst (L := T ++ L) hS
      subst e1
      refine ⟨a, vs, rfl, by rw [ok.hK]; exact h1, fun p hp => q _ _ ⟨L, hE, ?_⟩⟩
      have s2 : St Γ.cfg.K H' (reps (leaf l.reverse) vs.reverse ++ (T ++ L)) := by
        rw [reps_zip (by simp [l1])]
        rw [reps_zip l1] at s1'
        refine (s1'.sub (List.Sublist.append_left (List.sublist_cons_self _ _) _)).perm (List.Perm.append_right _ ?_)
        rw [zip_rev l1, List.map_reverse]
        exact (List.reverse_perm _).symm
      exact St.newLst (by simp [l1]) hp s2
    | non => simp only [q2] at hm; cases hm
    | bl _ => simp only [q2] at hm; cases hm
    | int _ => simp only [q2] at hm; cases hm
    | str _ => simp only [q2] at hm; cases hm
    | tup _ => simp only [q2] at hm; cases hm
    | dct _ => simp only [q2] at hm; cases hm
    | obj _ _ _ => simp only [q2] at hm; cases hm⟩
end
end BM

set_option Elab.async false
set_option linter.all false
set_option maxRecDepth 100000
set_option maxHeartbeats 4000000
/-! BM, part S: a set of several different texts, made of a tuple and sorted. -/
namespace BM
open PySem PySem.Spec PyProof.Rows L2

def txKey : Value → Str
  | .str k _ => k
  | _ => Str.empty
/-- a set whose members are the texts ks (each once) -/
def TxR (P : Program) (w : World) (h : Heap) (a : Addr) (ks : List Str) : Prop :=
  ∃ o es ep t, h.get? a = some o ∧ o.ExactSet ∧ o.data = .set es ep t ∧ ElemsOf (PySem.strKind P w) es.toList ∧ (es.toList.map fun e => txKey e.2).Perm ks ∧ es.size < scanBound ∧ t.fits es.size = true ∧
    Ris t.place.toList ∧ (w.params.followText "set-order" = true ∨ t.led = true)
section
variable {P : Program} {w : World} {A : Around} {E : Value → Shared → Prop} {s : Shared} {a : Addr} {ks : List Str}
theorem TxR.at {h h' : Heap} (R : TxR P w h a ks) (k : ∀ o, h.get? a = some o → h'.get? a = some o) : TxR P w h' a ks := by
  obtain ⟨o, es, ep, t, ho, r⟩ := R
  exact ⟨o, es, ep, t, k o ho, r⟩
theorem TxR.perm {h : Heap} {ks' : List Str} (R : TxR P w h a ks) (p : ks.Perm ks') : TxR P w h a ks' := by
  obtain ⟨o, es, ep, t, h1, h2, h3, h4, h5, r⟩ := R
  exact ⟨o, es, ep, t, h1, h2, h3, h4, h5.trans p, r⟩
theorem strEl {e : Int × Value} (h : (∃ k, (PySem.strKind P w).is k e.2 = true ∧ e.1 = (PySem.strKind P w).hash k) ∧ e.2.scannable = true) : ∃ tk, e.2 = .str (txKey e.2) tk := by
  obtain ⟨⟨k, h1, _⟩, _⟩ := h
  obtain ⟨tk, e1⟩ := Value.isStrOf_shape (show Value.isStrOf k e.2 = true from h1)
  exact ⟨tk, by rw [e1]; rfl⟩
theorem tx_put {g : Bool → Sem Unit} (hg : ∀ (b : Bool) (s₁ : Shared) (Q' : Unit → Shared → Prop), Q' () s₁ → wpAny (model P w) A (g b) Q' E s₁)
    {o : Obj} {es : Array (Int × Value)} {ep : Nat} {t : SetTable} (o1 : s.heap.get? a = some o) (o2 : o.ExactSet) (o3 : o.data = .set es ep t)
    {fs : Array (Int × Value)} {t2 : SetTable} (f1 : ElemsOf (PySem.strKind P w) fs.toList) (f2 : (fs.toList.map fun e => txKey e.2).Perm ks)
    (f3 : fs.size < scanBound) (f4 : t2.fits fs.size = true) (f5 : Ris t2.place.toList) (f6 : w.params.followText "set-order" = true ∨ t2.led = true) {wd : Bool} {R : Option Bool → Shared → Prop}
    (hR : ∀ h', Heap.SameBut a s.heap h' → TxR P w h' a ks → R (some true) { s with heap := h' }) :
    wpAny (model P w) A (do
        storeSet a fs t2
        if (!wd && t2.tooFull) = true then do
            g (relayAll t2 fs (SetTable.grown fs.size)).2.2
            storeSet a (relayAll t2 fs (SetTable.grown fs.size)).1 (relayAll t2 fs (SetTable.grown fs.size)).2.1
            pure (some true)
          else pure (some true)) R E s := by
  refine wpAny_bind (wpAny_storeSet_of o1 o3 ?_ (fits_of_scanBound f3))
  have p1 := store_at (es' := fs) (t' := t2) o1 o3
  have c1 := Heap.SameBut.update s.heap a (Obj.putSet fs t2)
  by_cases full : (!wd && t2.tooFull) = true
  case neg => rw [if_neg full]; exact wpAny_pure (hR _ c1 ⟨_, fs, _, t2, p1, o2, rfl, f1, f2, f3, f4, f5, f6⟩)
  case pos =>
    rw [if_pos full]
    have z1 := relayAll_perm t2 fs (SetTable.grown fs.size)
    have z2 := relayAll_fits t2 fs (SetTable.grown fs.size)
    have z3 := relayAll_ris t2 fs (SetTable.grown fs.size)
    have z4 := relayAll_led t2 fs (SetTable.grown fs.size)
    cases hZ : relayAll t2 fs (SetTable.grown fs.size) with
    | mk gs rest =>
    obtain ⟨t3, gave⟩ := rest
    rw [hZ] at z1 z2 z3 z4
    dsimp only at z1 z2 z3 z4 ⊢
    have sz : gs.size = fs.size := by rw [← Array.length_toList, z1.length_eq, Array.length_toList]
    have lt : gs.size < scanBound := sz ▸ f3
    refine wpAny_bind (hg _ _ _ ?_)
    refine wpAny_bind (wpAny_storeSet_of p1 rfl ?_ (fits_of_scanBound lt))
    have p2 := store_at (es' := gs) (t' := t3) p1 rfl
    refine wpAny_pure (hR _ (c1.trans (Heap.SameBut.update _ a _)) ?_)
    exact ⟨_, gs, _, t3, p2, o2, rfl, ElemsOf.perm f1 z1, (z1.map _).trans f2, lt, z2, z3, f6.imp id fun z => z4.trans z⟩
/-- a text that is not yet a member comes in -/
theorem tx_add {k : Str} {tk : Tok} {Q : Bool → Shared → Prop} (R : TxR P w s.heap a ks) (hk : k ∉ ks) (room : ks.length + 1 < scanBound)
    (hQ : ∀ h', Heap.SameBut a s.heap h' → TxR P w h' a (k :: ks) → Q true { s with heap := h' }) :
    wpAny (model P w) A (setAddHashed a (.str k tk) ((PySem.strKind P w).hash k)) Q E s := by
  obtain ⟨o, es, ep, t, o1, o2, o3, f1, f2, f3, f4, f5, f6⟩ := R
  have isk : (PySem.strKind P w).is k (.str k tk) = true := strKind_is P w k tk
  have scn : (Value.str k tk).scannable = true := rfl
  unfold setAddHashed setAddHashedIn
  refine wpAny_holding (wpAny_bind (wpAny_setState_of o1 o3 f4 ?_))
  dsimp only
  rw [byScan_of scn f3 f1, if_pos rfl]
  unfold setAddByScan
  refine wpAny_bind ?_
  refine wpAny_bind (wpAny_rule ?_)
  refine wpAny_bind (wpAny_setScan_of isk o1 o3 f4 f1 ?_)
  have absent : List.findIdx? (fun e => (PySem.strKind P w).is k e.2) es.toList = none := List.findIdx?_eq_none_iff.mpr fun e he => by
    obtain ⟨tk', e1⟩ := strEl (f1 e he)
    have m : txKey e.2 ∈ ks := f2.subset (List.mem_map.mpr ⟨e, he, rfl⟩)
    rw [e1]
    show (txKey e.2 == k) = false
    rw [beq_eq_false_iff_ne]
    intro z
    rw [z] at m
    exact hk m
  rw [absent]
  dsimp only
  have gw : ∀ (b : Bool) {s₁ : Shared} {Q' : Unit → Shared → Prop}, Q' () s₁ → wpAny (model P w) A (match b with | true => rule "set.scan.the-table-gave-way" | false => pure ()) Q' E s₁ := by
    intro b s₁ Q' q
    cases b
    · exact wpAny_pure q
    · exact wpAny_rule q
  have z1 := layNew_perm t es ((PySem.strKind P w).hash k) (.str k tk)
  have z2 := layNew_fits t es ((PySem.strKind P w).hash k) (.str k tk)
  have z3 := layNew_ris t es ((PySem.strKind P w).hash k) (.str k tk) f5
  have z4 := layNew_led t es ((PySem.strKind P w).hash k) (.str k tk)
  cases hZ : layNew t es ((PySem.strKind P w).hash k) (.str k tk) with
  | mk fs rest =>
  obtain ⟨t1, wd, gave⟩ := rest
  rw [hZ] at z1 z2 z3 z4
  dsimp only at z1 z2 z3 z4 ⊢
  rw [Array.toList_push] at z1
  have pc : fs.toList.Perm (((PySem.strKind P w).hash k, Value.str k tk) :: es.toList) := z1.trans (List.perm_append_singleton _ _)
  have g1 : ElemsOf (PySem.strKind P w) fs.toList := ElemsOf.perm (ElemsOf.push f1 isk scn) z1
  have g2 : (fs.toList.map fun e => txKey e.2).Perm (k :: ks) := (pc.map _).trans (List.Perm.cons k f2)
  have g3 : fs.size < scanBound := by
    have e1 := g2.length_eq
    rw [List.length_map, Array.length_toList, List.length_cons] at e1
    rw [e1]; exact room
  have g6 : w.params.followText "set-order" = true ∨ t1.led = true := f6.imp id fun z => z4.trans z
  refine wpAny_bind (gw _ ?_)
  split
  · refine wpAny_bind ?_
    rw [hashByValue_scannable 8 scn]
    refine wpAny_pure ?_
    refine tx_put ?_ o1 o2 o3 g1 g2 g3 ?_ ?_ ?_ ?_
    · intro b s₁ Q' q; exact gw b q
    · first | (split <;> first | exact z2 | exact SetTable.fits_plain_off z2) | exact z2
    · first | (split <;> exact z3) | exact z3
    · first | (split <;> exact g6) | exact g6
    · intro h' c r; dsimp only; exact wpAny_pure (hQ h' c r)
  · refine wpAny_bind (wpAny_pure ?_)
    simp only [↓reduceIte]
    refine tx_put ?_ o1 o2 o3 g1 g2 g3 z2 z3 g6 ?_
    · intro b s₁ Q' q; exact gw b q
    · intro h' c r; dsimp only; exact wpAny_pure (hQ h' c r)

/-- set.update's loop over different texts -/
theorem tx_loop {I : Addr} {fp wr : List Addr} {G : Array GenState → Array GenState → Prop} {n : Nat} {Pv : Nat → Value → Prop} {Stt : Nat → Shared → Prop} (W : WalksS P w A.in1 I fp wr G n Pv Stt)
    {R : Result → Shared → Prop} (a : Addr) (na : a ∉ fp) (ks : List Str) (len : ks.length = n) (nd : ks.Nodup) (few : n + 1 < scanBound) (hv : ∀ i v, Pv i v → ∃ tk k, v = .str k tk ∧ ks[i]? = some k) :
    ∀ (d i : Nat) (s : Shared), d + i = n → Stt i s → TxR P w s.heap a (ks.take i) →
      (∀ s', Moved (a :: wr) G s s' → TxR P w s'.heap a ks → R (.ok (.ret .none)) s') → codeAny (model P w) A (.builtin "set.update.loop" ⟨[.ref a, .ref I], []⟩) R s := by
  have naw : a ∉ wr := fun z => na (W.sub _ z)
  have wider : ∀ b ∈ wr, b ∈ a :: wr := fun _ z => List.mem_cons_of_mem _ z
  intro d
  induction d with
  | zero =>
    intro i s e1 st tx fin
    have e2 : i = n := by omega
    subst e2
    refine codeAny_builtin PyProof.Rows.F.entry_set_update_loop ?_
    rw [Around.under_plainId PyProof.Rows.F.plain_set_update_loop _]
    show wpAny _ A.in1 (pyNext (.ref I) >>= _) _ _ s
    refine wpAny_bind (W.done s _ _ st fun s2 mv => ?_)
    show wpAny _ A.in1 (ret Value.none) _ _ s2
    refine wpAny_pure (fin s2 (mv.mono wider) ?_)
    have tx2 := tx.at fun o e => mv.heap a o naw e
    rwa [List.take_of_length_le (Nat.le_of_eq len)] at tx2
  | succ d ih =>
    intro i s e1 st tx fin
    have below : i < n := by omega
    refine codeAny_builtin PyProof.Rows.F.entry_set_update_loop ?_
    rw [Around.under_plainId PyProof.Rows.F.plain_set_update_loop _]
    show wpAny _ A.in1 (pyNext (.ref I) >>= _) _ _ s
    refine wpAny_bind (W.item i s _ _ below st fun v s2 pv st2 mv => ?_)
    obtain ⟨tk, k, rfl, hk⟩ := hv i v pv
    have tx2 : TxR P w s2.heap a (ks.take i) := tx.at fun o e => mv.heap a o naw e
    have split2 : ks.take (i + 1) = ks.take i ++ [k] := by rw [List.take_succ, hk]; rfl
    have fresh : k ∉ ks.take i := by
      have q : (ks.take (i + 1)).Nodup := nd.sublist (List.take_sublist _ _)
      rw [split2] at q
      intro z
      exact (List.nodup_append.mp q).2.2 k z k List.mem_cons_self rfl
    show wpAny _ A.in1 (holding [Value.str k tk] (setAdd a (.str k tk)) >>= _) _ _ s2
    refine wpAny_bind (wpAny_holding ?_)
    unfold setAdd
    refine wpAny_holding ?_
    refine wpAny_bind ((PySem.strKind P w).pyHash (k := k) (strKind_is P w k tk) ?_)
    refine tx_add (s := { s2 with toks := s2.toks + 1 }) tx2 fresh ?_ fun h3 sb tx3 => ?_
    · have := List.length_take_le i ks
      rw [List.length_take]; omega
    have oth : ∀ b, b ≠ a → ∀ o, s2.heap.get? b = some o → h3.get? b = some o := fun b nb o e => (sb.2 b nb).trans e
    refine wpAny_pure ⟨plainId_quiet PyProof.Rows.F.plain_set_update_loop _, ih (i + 1) _ (by omega) (W.frame _ s2 _ _ st2 (Nat.le_succ _) fun b hb o e => oth b (fun z => na (z ▸ hb)) o e) ?_ fun s4 mv4 tx4 => fin s4 (Moved.trans W.gtrans ((mv.mono wider).then_heap (Nat.le_succ _) fun b o nb e => oth b (fun z => nb (by rw [z]; exact List.mem_cons_self)) o e) mv4) tx4⟩
    rw [split2]
    exact tx3.perm (List.perm_append_singleton _ _).symm

set_option maxHeartbeats 8000000 in
/-- set(t), t a tuple of different texts -/
theorem call_set_tx {l : Addr} {items : Array Value} (ks : List Str) {Q : Value → Shared → Prop} (hh : A.handled = none) (hl : s.heap.IsTuple l items) (len : ks.length = items.size) (nd : ks.Nodup) (few : items.size + 1 < scanBound)
    (hv : ∀ (i : Nat) (v : Value), items[i]? = some v → ∃ tk k, v = .str k tk ∧ ks[i]? = some k)
    (h : ∀ (h' : Heap) (tk : Nat), TxR P w h' s.heap.objs.size ks → (∀ b o, s.heap.get? b = some o → h'.get? b = some o) → Q (.ref s.heap.objs.size) { s with heap := h', toks := tk }) :
    wpAny (model P w) A (call (.type "set") [.ref l]) Q E s := by
  obtain ⟨c, tl, hmro⟩ := PySem.F.called_set.mro
  have f1 := PySem.F.called_set.made
  have f2 := PySem.F.called_set.sub
  have f3 := PySem.F.called_set.notType
  have f4 := PySem.F.called_set.canCreate
  have f5 := PySem.F.typeCall_set_1 (.ref l)
  refine wpAny_call (codeAny_of_tree ?_)
  show wpAny _ _ (callAny (.type "set") _) _ _ _
  refine wpAny_pure ⟨Code.quiet_builtin _ (by decide +kernel), codeAny_builtin PySem.F.entry_type_call ?_⟩
  rw [Around.under_plain (weight_type_call_type "set" [.ref l] []) rfl]
  repeat (any_goals (first | assumption | wp_step))
  let ob : Obj := { cls := .type "set", dict := none, data := .set #[] 0 (.fresh 0 0 (!w.params.followText "set-order")) }
  refine codeAny_mono (code_set_led1 (.ref l) (E := E) (Q₁ := fun obj s₁ => obj = .ref s.heap.objs.size ∧ s₁ = { s with heap := s.heap.push ob }) ⟨rfl, rfl⟩) fun r s₁ got => ?_
  match r, got with
  | .error e, got => exact got
  | .ok (.ret obj), got =>
    obtain ⟨rfl, rfl⟩ := got
    have g1 : (s.heap.push ob).get? s.heap.objs.size = some ob := Heap.get?_push_size _ rfl
    have g2 : Shared.TypeIs { s with heap := s.heap.push ob } (.ref s.heap.objs.size) "set" := ⟨_, g1, rfl⟩
    have f6 := PySem.F.called_set.init.lookup
    have f7 := PySem.F.called_set.init.bind (.ref s.heap.objs.size)
    repeat (any_goals (first | assumption | wp_step))
    refine codeAny_mono (codeAny_call_builtin (R := wants (fun r s₂ => r = .none ∧ ∃ h' tk, s₂ = { s with heap := h', toks := tk } ∧ TxR P w h' s.heap.objs.size ks ∧ (∀ b o, s.heap.get? b = some o → h'.get? b = some o)) E)
      PySem.F.called_set.init.plain PySem.F.entry_set_init (check_set_init_1 g2 ?_)) fun r₂ s₂ got₂ => ?_
    · obtain ⟨⟨oc, od, odt, osl⟩, o1, o2, nl, o3⟩ := hl
      simp only at o2 o3
      subst o2 o3
      have o4 : (s.heap.push ob).get? l = some { cls := .type "tuple", dict := od, data := .seq items nl, slots := osl } := Heap.get?_push_of_some _ o1
      have b1 := PySem.F.sub_tuple_set
      have b2 := PySem.F.sub_tuple_frozenset
      have b3 : (Value.type "tuple" == Value.type "dict") = false := by decide
      have o5 : (s.heap.push ob).IsTuple l items := ⟨_, o4, rfl, nl, rfl⟩
      unfold Builtin.«set.__init__» noKeywords Builtin.Frozenset.updateFrom
      generalize hPI : pyIter = PI
      wp_walk
      subst hPI
      refine wpAny_pyIter_tuple o5 ?_
      refine wpAny_bind (wpAny_runValue ?_)
      have llt : l < s.heap.objs.size := Heap.lt_size o1
      have calm3 : A.in1.in1.in1.handled = none := by simp [hh]
      have sz : (s.heap.push ob).objs.size = s.heap.objs.size + 1 := Heap.size_push ..
      have lne : l ≠ (s.heap.push ob).objs.size := by rw [sz]; exact Nat.ne_of_lt (Nat.lt_succ_of_lt llt)
      have nfp : s.heap.objs.size ∉ [(s.heap.push ob).objs.size, l] := by
        rw [sz]
        intro z
        rcases List.mem_cons.mp z with z | z
        · exact Nat.ne_of_lt (Nat.lt_succ_self _) z
        · exact Nat.ne_of_gt llt (List.mem_singleton.mp z)
      refine tx_loop ((Walks.tuple calm3 _ l lne items).toS) s.heap.objs.size nfp ks len nd few hv items.size 0 _ (Nat.add_zero _) ⟨⟨_, Heap.get?_push_size _ rfl, rfl, rfl⟩, (o5.push _)⟩ ?_ ?_
      · refine ⟨ob, #[], 0, _, Heap.get?_push_of_some _ g1, ⟨rfl, rfl, rfl⟩, rfl, (fun e he => by simp at he), (by simp), by decide, rfl, List.Pairwise.nil, ?_⟩
        show _ ∨ (!w.params.followText "set-order") = true
        cases w.params.followText "set-order"
        · exact .inr rfl
        · exact .inl rfl
      · intro s' mv tx
        obtain ⟨h2, g2', d2, t2, os2⟩ := s'
        cases (show g2' = s.gens from mv.gens)
        cases (show d2 = s.drawn from mv.drawn)
        cases (show os2 = s.os from mv.os)
        show wpAny _ _ _ _ _ _
        refine wpAny_pure ?_
        show wpAny _ _ (ret Value.none) _ _ _
        refine wpAny_pure ⟨rfl, h2, t2, rfl, tx, fun b o e => ?_⟩
        have blt := Heap.lt_size e
        refine mv.heap b o (fun z => ?_) (Heap.get?_push_of_some _ (Heap.get?_push_of_some _ e))
        rcases List.mem_cons.mp z with z | z
        · exact Nat.ne_of_lt blt z
        · have q := List.mem_singleton.mp z
          rw [sz] at q
          exact Nat.ne_of_lt (Nat.lt_succ_of_lt blt) q
    · match r₂, got₂ with
      | .error e, got₂ => exact got₂
      | .ok (.ret r), got₂ =>
        obtain ⟨rfl, h', tk, rfl, tx, old⟩ := got₂
        repeat (any_goals (first | assumption | wp_step))
        exact h _ _ tx old
end
end BM

set_option Elab.async false
set_option linter.all false
set_option maxRecDepth 100000
set_option maxHeartbeats 4000000
/-! BM, part T: sorted(s), s a set of texts; the two calls as rules. -/
namespace BM
open PySem PySem.Spec PyProof.Rows L2
def srtT (ks : List Str) : List Str := ks.mergeSort (PySem.W.dataLe false PyData.str)
def IsTx (v : Value) (k : Str) : Prop := ∃ tk, v = .str k tk
theorem each_tx : ∀ {vs : List Value}, (∀ v ∈ vs, ∃ tk, v = .str (txKey v) tk) → PySem.W.EachIs IsTx vs (vs.map txKey)
  | [], _ => .nil
  | v :: vs, h => .cons (h v List.mem_cons_self) (each_tx fun u hu => h u (List.mem_cons_of_mem _ hu))
theorem each_vals : ∀ {us : List Value} {ks : List Str}, PySem.W.EachIs IsTx us ks → Vals (ks.map V.str) us
  | _, [], h => by cases h; exact .nil
  | _, k :: ks, h => by
    cases h with
    | cons h hs => exact .cons h (each_vals hs)
section
variable {P : Program} {w : World} {A : Around} {E : Value → Shared → Prop} {s : Shared} {a : Addr} {ks : List Str}
theorem call_sorted_tx {Q : Value → Shared → Prop} (R : TxR P w s.heap a ks) (hh : A.handled = none) (few : ks.length < 64) (hu : A.units + 64 < cLine)
    (hQ : ∀ s' p (out : List Value) (c : Nat) (ks2 : List Str), (∀ b o, s.heap.get? b = some o → s'.heap.get? b = some o) → s'.gens = s.gens → s'.os = s.os → s.heap.objs.size ≤ p → ks2.Perm ks →
      s'.heap.get? p = some (seqObj "list" out.toArray c) → PySem.W.EachIs IsTx out (srtT ks2) → Q (.ref p) s') :
    wpAny (model P w) A (call (.builtin "sorted") [.ref a]) Q E s := by
  obtain ⟨o, es, ep, t, o1, o2, o3, f1, f2, f3, f4, f5, f6⟩ := R
  refine Calls.call_function_entry kind_sorted plain_sorted entry_sorted (args_sorted1 _) ?_
  unfold Builtin.«sorted»
  refine wpAny_bind (m := checkCount "sorted" 1 1 _) (wpAny_pure ?_)
  refine wpAny_bind (collect_set (A := A.in1) hh ⟨o, o1, o2.1, o3⟩ f4 f3 f5 f6 fun s1 vs c1 c2 c3 c4 pm => ?_)
  have tx : ∀ v ∈ vs, ∃ tk, v = .str (txKey v) tk := fun v hv => by
    obtain ⟨e, he, rfl⟩ := List.mem_map.mp (pm.subset hv)
    exact strEl (f1 e he)
  have pk : (vs.map txKey).Perm ks := by
    have q := pm.map txKey
    rw [List.map_map] at q
    exact q.trans f2
  have len : vs.length = ks.length := by rw [← pk.length_eq, List.length_map]
  have fit : vs.length ≤ sizeLine := by rw [len, sizeLine_eq]; omega
  refine wpAny_bind (wpAny_newList ?_ fit)
  have at1 : (s1.heap.push (seqObj "list" vs.toArray 0)).get? s1.heap.objs.size = some (seqObj "list" vs.toArray 0) := Heap.get?_push_size _ rfl
  refine wpAny_bind (wpAny_holding (PySem.W.list_sort_data (s := { s1 with heap := s1.heap.push (seqObj "list" vs.toArray 0) }) (R := IsTx) (enc := PyData.str) at1 (each_tx tx) ?_ ?_ ?_ ?_ ?_ fun out lo eo => ?_))
  · exact (each_tx tx).mono fun v k ⟨tk, e⟩ => ⟨[], by rw [e]; exact .str _ _, by simp⟩
  · exact PySem.W.AllAlike.of fun _ _ => rfl
  · exact PySem.W.Sortable.others fun b => ⟨(fun z => nomatch z), fun xs z => nomatch z⟩
  · rw [List.length_map]; exact fit
  · intro b _
    show A.in1.units + 1 + (PyData.str b).depth < cLine
    have : (PyData.str b).depth = 0 := by simp [PyData.depth]
    have : A.in1.units ≤ A.units + 1 := by simp [Around.in1]
    omega
  · obtain ⟨c, hc⟩ := sortedHeap_at (vs := vs) (out := out.toArray) at1
    refine wpAny_pure ⟨_, rfl, hQ _ s1.heap.objs.size out c (vs.map txKey) (fun b u e => ?_) c3 c4 c2 pk hc eo⟩
    have q := c1 b u e
    have lt := Heap.lt_size q
    show (sortedHeap (s1.heap.push (seqObj "list" vs.toArray 0)) s1.heap.objs.size vs out.toArray).get? b = some u
    rw [sortedHeap_old (Nat.ne_of_lt lt) (by rw [size_push']; exact Nat.lt_succ_of_lt lt)]
    exact Heap.get?_push_of_some _ q
end
def TxO (P : Program) (w : World) (a : Addr) (ks : List Str) : HO := .ext fun h => TxR P w h a ks
section
variable {X : Cx}
theorem txO_new {P : Program} {w : World} {H : Hp} {h : Heap} {a : Addr} {ks : List Str} (R : TxR P w h a ks) : ObjOk P w H h a (TxO P w a ks) := by
  have ⟨o, _, _, _, ho, _⟩ := R
  exact ⟨R, ⟨o, ho⟩, fun h1 h2 p k => TxR.at p k⟩
theorem vals_tx : ∀ {ks : List Str} {its : List Value}, Vals (ks.map V.str) its → ∀ (i : Nat) {v : Value}, its[i]? = some v → ∃ tk k, v = .str k tk ∧ ks[i]? = some k
  | [], _, h, i, v, e => by cases h; simp at e
  | k :: ks, _, h, i, v, e => by
    cases h with
    | cons r1 r2 =>
      cases i with
      | zero =>
        obtain ⟨tk, e1⟩ := r1
        exact ⟨tk, k, (Option.some.inj e).symm.trans e1, rfl⟩
      | succ i => exact vals_tx r2 i e
def rSetTx (X : Cx) : List V → Hp → VK → Prop := fun vs H Q => ∃ (a : Addr) (ks : List Str), vs = [V.ref a] ∧ SqT X.K H a (ks.map V.str) ∧ ks.Nodup ∧ ks.length < 64 ∧ ∀ p, H p = none → Q (.ref p) (upd H p (TxO X.prog X.w p ks))
theorem cr_setTx (hc : X.calm = true) : CallR X (.type "set") (rSetTx X) := by
  intro pins s σ H vs us Q I r h
  obtain ⟨a, ks, rfl, hs, nd, few, q⟩ := h
  obtain ⟨its, rv, ht, hz⟩ := I.tuple hs
  rw [Vals.ref1 r]
  have len : ks.length = its.toArray.size := by
    have q := rv.length
    rw [List.length_map] at q
    rw [List.size_toArray]; exact q
  refine call_set_tx ks (I.ok.hd hc) ht len nd (by rw [← len]; unfold scanBound; omega) (fun i v hv => ?_) fun h' tk tx old => ?_
  · exact vals_tx rv i (by simpa using hv)
  · exact ⟨.ref _, upd H s.heap.objs.size (TxO X.prog X.w s.heap.objs.size ks), I.laid (t' := tk) old (Nat.le_refl _) (txO_new tx), rfl, q _ (I.hok.fresh (Nat.le_refl _))⟩
def rSortTx (X : Cx) : List V → Hp → VK → Prop := fun vs H Q => ∃ (a : Addr) (ks : List Str), vs = [V.ref a] ∧ H a = some (TxO X.prog X.w a ks) ∧ ks.length < 64 ∧
  ∀ (ks2 : List Str) (p : Addr), ks2.Perm ks → H p = none → Q (.ref p) (upd H p (.lst ((srtT ks2).map V.str)))
theorem cr_sortTx (hc : X.calm = true) (hu : X.A.units + 64 < cLine) : CallR X (.builtin "sorted") (rSortTx X) := by
  intro pins s σ H vs us Q I r h
  obtain ⟨a, ks, rfl, ha, few, q⟩ := h
  have R : TxR X.prog X.w s.heap a ks := (I.hok a _ ha).1
  rw [Vals.ref1 r]
  refine call_sorted_tx R (I.ok.hd hc) few hu fun s' p out c ks2 k g o hp pm hg eo => ?_
  have len : ((srtT ks2).map V.str).length ≤ sizeLine := by
    unfold srtT
    rw [List.length_map, (List.mergeSort_perm _ _).length_eq, pm.length_eq, sizeLine_eq]; omega
  have hn : H p = none := I.hok.fresh hp
  have J : Inv X pins σ (upd H p (.lst ((srtT ks2).map V.str))) { s with heap := s'.heap, gens := s'.gens, drawn := s'.drawn, toks := s'.toks } :=
    I.call (ch := []) (Un.laid k hp hn) (I.hok.laid k hp ⟨len, out, c, each_vals eo, hg⟩) (by rw [g]; exact I.bare) (fun _ z => nomatch z)
  have e : s' = { s with heap := s'.heap, gens := s'.gens, drawn := s'.drawn, toks := s'.toks } := by
    cases s'; cases s; cases o; rfl
  rw [e]
  exact ⟨.ref p, _, J, rfl, q ks2 p pm hn⟩
end
end BM

set_option Elab.async false
set_option linter.all false
set_option maxRecDepth 100000
set_option maxHeartbeats 4000000
/-! BM, part 18: running the words. -/
namespace BM
open PySem PySem.Spec PyProof.Rows L2
section
variable {s s0 s1 s2 s3 s4 : Env} {o o1 o2 o3 r : O} {a b c m : M O} {F : List D → Option O} {G : List D → Option Bool} {t u : M Bool} {k : Bool}
theorem x_bind {α β : Type} {m : M α} {f : α → M β} {v : α} {r : Option (β × Env)} (h : m s = some (v, s1)) (h2 : f v s1 = r) : mbind m f s = r := by
  unfold mbind; rw [h]; exact h2
theorem x_ret (h : m s = some (o, s1)) : sRet m s = some (.rt o, s1) := x_bind h rfl
theorem x_expr (h : m s = some (o, s1)) : sExpr m s = some (.nx, s1) := x_bind h rfl
theorem x_seq {x y : M Fl} {r : Option (Fl × Env)} (h : x s = some (.nx, s1)) (h2 : y s1 = r) : sSeq x y s = r := x_bind h h2
theorem x_seqR {x y : M Fl} (h : x s = some (.rt o, s1)) : sSeq x y s = some (.rt o, s1) := x_bind h rfl
theorem x_set {i : Nat} (h : m s = some (o, s1)) (hi : Nat.ble (i + 1) s1.length = true := by rfl) (hs : s1.set i (some (.d o.toD)) = s2 := by rfl) : sSet i m s = some (.nx, s2) := x_bind h (x_bind (by unfold mset; rw [if_pos (show i < s1.length from Nat.le_of_ble_eq_true hi), hs]) rfl)
theorem x_setO {i : Nat} (h : m s = some (o, s1)) (hi : Nat.ble (i + 1) s1.length = true := by rfl) (hs : s1.set i (some o) = s2 := by rfl) : sSetO i m s = some (.nx, s2) := x_bind h (x_bind (by unfold mset; rw [if_pos (show i < s1.length from Nat.le_of_ble_eq_true hi), hs]) rfl)
theorem x_val {v : O} (h : m s = some (v, s1)) : mval m s = some (.val v.toD, s1) := by unfold mval; rw [h]
theorem x_ops1 {A : M Od} {x : Od} {d : D} (h : A s = some (x, s1)) (g : x.get s1 = some d) : mops [A] s = some ([d], s1) := by
  unfold mops
  rw [show mods [A] s = some ([x], s1) from x_bind h (x_bind (s1 := s1) (v := []) rfl rfl)]
  simp only [odsGet, g]
theorem x_ops2 {A B : M Od} {x y : Od} {d e : D} (h : A s = some (x, s1)) (h2 : B s1 = some (y, s2)) (g : x.get s2 = some d) (g2 : y.get s2 = some e) : mops [A, B] s = some ([d, e], s2) := by
  unfold mops
  rw [show mods [A, B] s = some ([x, y], s2) from x_bind h (x_bind (v := [y]) (s1 := s2) (x_bind h2 (x_bind (v := []) (s1 := s2) rfl rfl)) rfl)]
  simp only [odsGet, g, g2]
theorem x_op1 {A : M Od} {x : Od} {d : D} (h : A s = some (x, s1)) (g : x.get s1 = some d) (hF : F [d] = some r) : mOp F [A] s = some (r, s1) := by
  unfold mOp; rw [x_ops1 h g]; simp only [hF]
theorem x_op2 {A B : M Od} {x y : Od} {d e : D} (h : A s = some (x, s1)) (h2 : B s1 = some (y, s2)) (g : x.get s2 = some d) (g2 : y.get s2 = some e) (hF : F [d, e] = some r) : mOp F [A, B] s = some (r, s2) := by
  unfold mOp; rw [x_ops2 h h2 g g2]; simp only [hF]
theorem x_v1 (h : a s = some (o, s1)) (hF : F [o.toD] = some r) : mOp F [mval a] s = some (r, s1) := x_op1 (x_val h) rfl hF
theorem x_v2 (h : a s = some (o, s1)) (h2 : b s1 = some (o2, s2)) (hF : F [o.toD, o2.toD] = some r) : mOp F [mval a, mval b] s = some (r, s2) := x_op2 (x_val h) (x_val h2) rfl rfl hF
theorem x_t1 {A : M Od} {x : Od} {d : D} (h : A s = some (x, s1)) (g : x.get s1 = some d) (hF : G [d] = some k) : mTst G [A] s = some (k, s1) := by
  unfold mTst; rw [x_ops1 h g]; simp only [hF]
theorem x_t2 {A B : M Od} {x y : Od} {d e : D} (h : A s = some (x, s1)) (h2 : B s1 = some (y, s2)) (g : x.get s2 = some d) (g2 : y.get s2 = some e) (hF : G [d, e] = some k) : mTst G [A, B] s = some (k, s2) := by
  unfold mTst; rw [x_ops2 h h2 g g2]; simp only [hF]
theorem x_tv1 (h : a s = some (o, s1)) (hF : G [o.toD] = some k) : mTst G [mval a] s = some (k, s1) := x_t1 (x_val h) rfl hF
theorem x_tv2 (h : a s = some (o, s1)) (h2 : b s1 = some (o2, s2)) (hF : G [o.toD, o2.toD] = some k) : mTst G [mval a, mval b] s = some (k, s2) := x_t2 (x_val h) (x_val h2) rfl rfl hF
theorem x_not (h : t s = some (k, s1)) : tNot t s = some (!k, s1) := x_bind h rfl
theorem x_orT (h : t s = some (true, s1)) : tOr t u s = some (true, s1) := x_bind h rfl
theorem x_orF {r : Option (Bool × Env)} (h : t s = some (false, s1)) (h2 : u s1 = r) : tOr t u s = r := x_bind h h2
theorem x_andF (h : t s = some (false, s1)) : tAnd t u s = some (false, s1) := x_bind h rfl
theorem x_andT {r : Option (Bool × Env)} (h : t s = some (true, s1)) (h2 : u s1 = r) : tAnd t u s = r := x_bind h h2
theorem x_or2 {k2 : Bool} (h : t s = some (k, s)) (h2 : u s = some (k2, s)) : tOr t u s = some (k || k2, s) := by
  cases k with
  | true => exact x_orT h
  | false => exact x_orF h h2
theorem x_and2 {k2 : Bool} (h : t s = some (k, s)) (h2 : u s = some (k2, s)) : tAnd t u s = some (k && k2, s) := by
  cases k with
  | true => exact x_andT h h2
  | false => exact x_andF h
theorem x_ifT {α : Type} {x y : M α} {r : Option (α × Env)} (h : t s = some (true, s1)) (h2 : x s1 = r) : mIf t x y s = r := x_bind h h2
theorem x_ifF {α : Type} {x y : M α} {r : Option (α × Env)} (h : t s = some (false, s1)) (h2 : y s1 = r) : mIf t x y s = r := x_bind h h2
theorem x_sifT {x y : M Fl} {r : Option (Fl × Env)} (h : t s = some (true, s1)) (h2 : x s1 = r) : sIf t x y s = r := x_bind h h2
theorem x_sifF {x y : M Fl} {r : Option (Fl × Env)} (h : t s = some (false, s1)) (h2 : y s1 = r) : sIf t x y s = r := x_bind h h2
theorem x_mOrT (h : a s = some (o, s1)) (hk : truthD o.toD = some true) : mOr a b s = some (.d o.toD, s1) := x_bind h (by simp only [hk]; rfl)
theorem x_mOrF {r : Option (O × Env)} (h : a s = some (o, s1)) (hk : truthD o.toD = some false) (h2 : b s1 = r) : mOr a b s = r := x_bind h (by simp only [hk]; exact h2)
theorem x_args0 : mArgs [] s = some ([], s) := rfl
theorem x_args {ms : List (M O)} {os : List O} (h : m s = some (o, s1)) (h2 : mArgs ms s1 = some (os, s2)) : mArgs (m :: ms) s = some (o :: os, s2) := x_bind h (x_bind h2 rfl)
theorem x_tup {ms : List (M O)} {os : List O} (h : mArgs ms s = some (os, s1)) : mTup ms s = some (.d (.tup (O.toDs os)), s1) := x_bind h rfl
theorem x_lst {ms : List (M O)} {os : List O} (h : mArgs ms s = some (os, s1)) : mLst ms s = some (.lst os, s1) := x_bind h rfl
theorem x_iS {l : List D} (h : m s = some (o, s1)) (hl : listOfD o.toD = some l) : iS m s = some (l, s1) := by
  unfold iS; rw [h]; simp only [hl]
theorem x_iR1 {j : Int} (h : m s = some (.d (.int j), s1)) (hj : -(2 ^ 62) ≤ j ∧ j < 2 ^ 62) : iR1 m s = some (upto 0 j.toNat, s1) := by
  unfold iR1; rw [h]; simp only [if_pos hj]
theorem x_rev {l : List D} (h : m s = some (o, s1)) (hl : o.toD = .lst l) : mRev m s = some (.lst (leaf l.reverse), s1) := by
  unfold mRev; rw [h]; simp only [hl]
/-! ### comprehensions whose parts change nothing -/
theorem x_lcL {own : List Nat} {g : D → M Unit} {elt : M O} {f : D → Bool} {h : D → O} : ∀ {ds : List D}, (∀ d ∈ ds, ∃ s1, g d s0 = some ((), s1) ∧ t s1 = some (f d, s1) ∧ (f d = true → elt s1 = some (h d, s1)) ∧ wipeE s1 own = s0) →
    lcL own g t elt ds s0 = some ((ds.filter f).map h, s0)
  | [], _ => rfl
  | d :: ds, H => by
    obtain ⟨s1, h1, h2, h3, h4⟩ := H d List.mem_cons_self
    have ih := x_lcL (ds := ds) fun d hd => H d (List.mem_cons_of_mem _ hd)
    rw [lcL]
    refine x_bind h1 (x_bind h2 ?_)
    by_cases hk : f d = true
    · rw [if_pos hk, List.filter_cons_of_pos hk, List.map_cons]
      refine x_bind (h3 hk) (x_bind (v := ()) (s1 := s0) (by unfold mwipe; rw [h4]) (x_bind ih rfl))
    · rw [if_neg hk, List.filter_cons_of_neg hk]
      exact x_bind (v := ()) (s1 := s0) (by unfold mwipe; rw [h4]) ih
theorem x_lc {own : List Nat} {src : M (List D)} {g : D → M Unit} {elt : M O} {f : D → Bool} {h : D → O} {ds : List D} (hs : src s = some (ds, s1)) (h0 : wipeE s1 own = s0)
    (H : ∀ d ∈ ds, ∃ s1, g d s0 = some ((), s1) ∧ t s1 = some (f d, s1) ∧ (f d = true → elt s1 = some (h d, s1)) ∧ wipeE s1 own = s0) (hl : (ds.filter f).length ≤ sizeLine) : mLc own src g t elt s = some (.lst ((ds.filter f).map h), s0) := by
  refine x_bind hs (x_bind (v := ()) (s1 := s0) (by unfold mwipe; rw [h0]) (x_bind (x_lcL H) ?_))
  rw [if_pos (by simpa using hl)]; rfl
theorem x_lc2 {own own1 : List Nat} {src src1 : M (List D)} {g g1 : D → M Unit} {t1 : M Bool} {elt : M O} {f : D → Bool} {f1 : D → D → Bool} {h : D → D → O} {ds : List D} {ds1 : D → List D} (hs : src s = some (ds, s1)) (h0 : wipeE s1 own = s0)
    (H : ∀ d ∈ ds, ∃ s1 s2, g d s0 = some ((), s1) ∧ t s1 = some (f d, s1) ∧ (f d = true → src1 s1 = some (ds1 d, s1) ∧ wipeE s1 own1 = s2 ∧ (∀ e ∈ ds1 d, ∃ s3, g1 e s2 = some ((), s3) ∧ t1 s3 = some (f1 d e, s3) ∧ (f1 d e = true → elt s3 = some (h d e, s3)) ∧ wipeE s3 own1 = s2) ∧ wipeE s2 own = s0) ∧ wipeE s1 own = s0)
    (hl : ((ds.filter f).flatMap fun d => ((ds1 d).filter (f1 d)).map (h d)).length ≤ sizeLine) : mLc2 own own1 src g t src1 g1 t1 elt s = some (.lst ((ds.filter f).flatMap fun d => ((ds1 d).filter (f1 d)).map (h d)), s0) := by
  have key : ∀ ds : List D, (∀ d ∈ ds, ∃ s1 s2, g d s0 = some ((), s1) ∧ t s1 = some (f d, s1) ∧ (f d = true → src1 s1 = some (ds1 d, s1) ∧ wipeE s1 own1 = s2 ∧ (∀ e ∈ ds1 d, ∃ s3, g1 e s2 = some ((), s3) ∧ t1 s3 = some (f1 d e, s3) ∧ (f1 d e = true → elt s3 = some (h d e, s3)) ∧ wipeE s3 own1 = s2) ∧ wipeE s2 own = s0) ∧ wipeE s1 own = s0) →
      lcL2 own own1 g t src1 g1 t1 elt ds s0 = some ((ds.filter f).flatMap fun d => ((ds1 d).filter (f1 d)).map (h d), s0) := by
    intro ds
    induction ds with
    | nil => intro _; rfl
    | cons d ds ih =>
      intro H
      obtain ⟨s1, s2, h1, h2, h3, h4⟩ := H d List.mem_cons_self
      have ih := ih fun d hd => H d (List.mem_cons_of_mem _ hd)
      rw [lcL2]
      refine x_bind h1 (x_bind h2 ?_)
      by_cases hk : f d = true
      · obtain ⟨g1', g2, g3, g4⟩ := h3 hk
        rw [if_pos hk, List.filter_cons_of_pos hk, List.flatMap_cons]
        exact x_bind g1' (x_bind (v := ()) (s1 := s2) (by unfold mwipe; rw [g2]) (x_bind (x_lcL g3) (x_bind (v := ()) (s1 := s0) (by unfold mwipe; rw [g4]) (x_bind ih rfl))))
      · rw [if_neg hk, List.filter_cons_of_neg hk]
        exact x_bind (v := ()) (s1 := s0) (by unfold mwipe; rw [h4]) ih
  refine x_bind hs (x_bind (v := ()) (s1 := s0) (by unfold mwipe; rw [h0]) (x_bind (key ds H) ?_))
  rw [if_pos (by simpa using hl)]; rfl
/-- a loop by what stands behind i turns -/
theorem x_for {g : D → M Unit} {body : M Fl} {P : Nat → Env → Prop} : ∀ {ds : List D} {i : Nat} {s : Env}, P i s → (∀ j d s, ds[j]? = some d → P (i + j) s → ∃ s1 s2, g d s = some ((), s1) ∧ body s1 = some (.nx, s2) ∧ P (i + j + 1) s2) → ∃ s', forL g body ds s = some (.nx, s') ∧ P (i + ds.length) s'
  | [], i, s, p, _ => ⟨s, rfl, p⟩
  | d :: ds, i, s, p, H => by
    obtain ⟨s1, s2, h1, h2, p2⟩ := H 0 d s rfl p
    obtain ⟨s', h3, p3⟩ := x_for (s := s2) (ds := ds) (i := i + 1) p2 fun j e s he p => by
      have z := H (j + 1) e s (by simpa using he) (by rw [show i + (j + 1) = i + 1 + j by omega]; exact p)
      obtain ⟨a, b, c, d, e⟩ := z
      exact ⟨a, b, c, d, by rw [show i + 1 + j + 1 = i + (j + 1) + 1 by omega]; exact e⟩
    refine ⟨s', ?_, by rw [List.length_cons, show i + (ds.length + 1) = i + 1 + ds.length by omega]; exact p3⟩
    rw [forL]
    exact x_bind h1 (x_bind h2 h3)
theorem x_sFor {src : M (List D)} {g : D → M Unit} {body : M Fl} {P : Nat → Env → Prop} {ds : List D} (hs : src s = some (ds, s1)) (p : P 0 s1) (H : ∀ j d s, ds[j]? = some d → P j s → ∃ s1 s2, g d s = some ((), s1) ∧ body s1 = some (.nx, s2) ∧ P (j + 1) s2) : ∃ s', sFor src g body s = some (.nx, s') ∧ P ds.length s' := by
  obtain ⟨s', h1, h2⟩ := x_for (i := 0) p fun j d s he p => by
    rw [Nat.zero_add] at p
    obtain ⟨a, b, c, d, e⟩ := H j d s he p
    exact ⟨a, b, c, d, by rw [Nat.zero_add]; exact e⟩
  exact ⟨s', x_bind hs h1, by rw [Nat.zero_add] at h2; exact h2⟩
/-! ### calls -/
theorem x_call {io : List Bool} {n : Nat} {body : M Fl} {os outs : List O} (hl : os.length = io.length) (hb : body (inE io os ++ List.replicate n none) = some (.rt o, s1)) (ho : outsM io os 0 s1 = some outs) : callM io n body os = some (o, outs) := by
  unfold callM; rw [if_pos hl, hb]; simp only [ho]
theorem x_mCall {f : List O → Option (O × List O)} {ms : List (M Ar)} {ars : List Ar} {os outs : List O} (h1 : mars ms s = some (ars, s1)) (h2 : takeArs ars s1 = some (os, s2)) (h3 : f os = some (o, outs)) (h4 : giveArs ars outs s2 = some ((), s3)) : mCall f ms s = some (o, s3) := by
  unfold mCall
  refine x_bind h1 (x_bind h2 ?_)
  simp only [h3, h4]
theorem x_mars0 : mars [] s = some ([], s) := rfl
theorem x_mars {A : M Ar} {x : Ar} {ms : List (M Ar)} {l : List Ar} (h : A s = some (x, s1)) (h2 : mars ms s1 = some (l, s2)) : mars (A :: ms) s = some (x :: l, s2) := x_bind h (x_bind h2 rfl)
theorem x_aval (h : m s = some (o, s1)) : aval m s = some (.val o, s1) := by unfold aval; rw [h]
end
end BM
namespace BM
open PySem PySem.Spec PyProof.Rows L2
theorem reps_intL {K : PySem.W.Frag} {H : Hp} : ∀ ns : List Int, Reps K H (ns.map D.int) (ns.map V.int)
  | [] => by rw [List.map_nil, Reps]; rfl
  | n :: ns => by
    rw [List.map_cons, Reps]
    exact ⟨.int n, ns.map V.int, rfl, by rw [Rep], reps_intL ns⟩
/-- the script, ahead of everything -/
theorem St.script {K : PySem.W.Frag} {H : Hp} {a : Addr} {ns : List Int} (h : SqL K H a (ns.map V.int)) : St K H (reps [.d (.lst (ns.map D.int))] [.ref a] ++ []) := by
  refine ⟨H, [], fun _ _ e => e, ⟨[], [], rfl, ?_, rfl⟩, .nil, fun a h => by cases h⟩
  show Own K H H (.d (.lst (ns.map D.int))) (.ref a) []
  rw [Own, Rep]
  exact ⟨rfl, a, _, rfl, h, reps_intL ns⟩
end BM

set_option Elab.async false
set_option linter.all false
set_option maxRecDepth 100000
set_option maxHeartbeats 4000000
/-! BM, part 19: plain laws: how long a repr is; orders. -/
namespace BM
open PySem PySem.Spec PyProof.Rows L2
/-! ### the length of a repr -/
mutual
def sz : PyData → Nat
  | .none => 4
  | .bool _ => 5
  | .int i => (toString i : Str).length
  | .str x => 10 * x.length + 2
  | .list xs => szs xs + 3
  | .tuple xs => szs xs + 3
  | .dict _ => 0
def szs : List PyData → Nat
  | [] => 0
  | x :: r => sz x + 2 + szs r
end
theorem str_len_app (a b : Str) : (a ++ b).length = a.length + b.length := by
  show (a.cps ++ b.cps).size = _
  rw [Array.size_append]; rfl
theorem shownAll_len (l : List PyData) : (PyData.shownAll l).length = l.length := by
  induction l with
  | nil => simp [PyData.shownAll]
  | cons x r ih => simp [PyData.shownAll, ih]
mutual
theorem shown_len : ∀ {p : PyData}, p.canLay0 = true → p.shown.length ≤ sz p
  | .none, _ => by simp only [PyData.shown, sz]; decide
  | .bool b, _ => by simp only [PyData.shown, sz]; cases b <;> decide
  | .int i, _ => by simp only [PyData.shown, sz]; exact Nat.le_refl _
  | .str x, h => by
    simp only [PyData.shown, sz]
    refine StrLaws.reprText_len x fun c hc => ?_
    have h' : PyData.strOk x = true := by simpa [PyData.canLay0] using h
    unfold PyData.strOk at h'
    rw [Array.all_eq_true'] at h'
    have z := h' c (by simpa using hc)
    have z2 : c < 0x110000 := by simpa using z
    omega
  | .list xs, h => by
    simp only [PyData.shown, sz]
    refine Nat.le_trans (listText_len_le _) ?_
    rw [shownAll_len]
    have z := shownAll_sum (xs := xs) (by simpa [PyData.canLay0] using h)
    omega
  | .tuple xs, h => by
    simp only [PyData.shown, sz]
    refine Nat.le_trans (tupleText_len_le _) ?_
    rw [shownAll_len]
    have z := shownAll_sum (xs := xs) (by simpa [PyData.canLay0] using h)
    omega
  | .dict _, h => by simp [PyData.canLay0] at h
theorem shownAll_sum : ∀ {xs : List PyData}, PyData.canLayAll0 xs = true → ((PyData.shownAll xs).map (·.length)).sum + 2 * xs.length ≤ szs xs
  | [], _ => by simp [PyData.shownAll, szs]
  | x :: r, h => by
    have h' : x.canLay0 = true ∧ PyData.canLayAll0 r = true := by simpa [PyData.canLayAll0] using h
    have h1 := shown_len h'.1
    have h2 := shownAll_sum h'.2
    simp only [PyData.shownAll, szs, List.map_cons, List.sum_cons, List.length_cons]
    omega
end
theorem szs_le {B : Nat} : ∀ {l : List PyData}, (∀ p ∈ l, sz p ≤ B) → szs l ≤ l.length * (B + 2)
  | [], _ => by simp [szs]
  | p :: r, h => by
    have h1 := h p List.mem_cons_self
    have h2 := szs_le (l := r) fun q hq => h q (List.mem_cons_of_mem _ hq)
    rw [szs, List.length_cons, Nat.add_mul]
    omega
/-! ### what is sorted -/
theorem pair_cmp {α : Type} {R : α → α → Prop} : ∀ {l : List α} {a b : α}, l.Pairwise R → a ∈ l → b ∈ l → a = b ∨ R a b ∨ R b a
  | x :: l, a, b, h, ha, hb => by
    rw [List.pairwise_cons] at h
    rcases List.mem_cons.mp ha with ea | ha <;> rcases List.mem_cons.mp hb with eb | hb
    · exact .inl (ea.trans eb.symm)
    · rw [ea]; exact .inr (.inl (h.1 b hb))
    · rw [eb]; exact .inr (.inr (h.1 a ha))
    · exact pair_cmp h.2 ha hb
theorem dle_iff {a b : D} : PySem.W.dataLe false pyD a b = !PySem.W.dataLt (pyD b) (pyD a) := rfl
theorem dlt_asymm {p q : PyData} (h : PySem.W.dataLt p q = true) : PySem.W.dataLt q p = false := by
  cases z : PySem.W.dataLt q p with
  | false => rfl
  | true =>
    have t := PyProof.Rows.lex_trans (O := PyProof.Rows.itemOrd) _ _ _ (show PyProof.Rows.lexLt PyProof.Rows.itemOrd (PySem.W.keyToks p) (PySem.W.keyToks q) = true from h) z
    have i := PyProof.Rows.lex_irrefl (O := PyProof.Rows.itemOrd) (PySem.W.keyToks p)
    rw [i] at t; cases t
theorem srt_unique {l l' : List D} (p : l.Perm l') (h : l'.Pairwise fun a b => PySem.W.dataLt (pyD a) (pyD b) = true) : srtD l = l' := by
  have tl := PySem.W.sortLe_total (PyProof.Rows.listOrd PyProof.Rows.itemOrd) false fun b : D => PySem.W.keyToks (pyD b)
  refine List.Perm.eq_of_pairwise (le := fun a b => PySem.W.dataLe false pyD a b = true) (fun a b ha hb h1 h2 => ?_) (List.pairwise_mergeSort tl.trans (fun a b => by rw [Bool.or_eq_true]; exact tl.total a b) l) (h.imp fun {a b} z => by rw [dle_iff, dlt_asymm z]; rfl) ((List.mergeSort_perm l _).trans p)
  have ha' : a ∈ l' := p.subset ((List.mergeSort_perm l _).subset ha)
  rcases pair_cmp h ha' hb with e | e | e
  · exact e
  · rw [dle_iff, e] at h2; cases h2
  · rw [dle_iff, e] at h1; cases h1
end BM

set_option Elab.async false
set_option linter.all false
set_option maxRecDepth 100000
set_option maxHeartbeats 4000000
/-! BM, part 20: texts, groups of texts, all groups of a size. -/
namespace BM
open PySem PySem.Spec PyProof.Rows L2
/-! ### the order of texts -/
def sLt (x y : Str) : Bool := decide (x.cps.toList < y.cps.toList)
theorem str_ext {x y : Str} (h : x.cps.toList = y.cps.toList) : x = y := by
  cases x; cases y
  simp only [Str.mk.injEq]
  exact Array.toList_inj.mp h
theorem sLt_irrefl (x : Str) : sLt x x = false := decide_eq_false (List.lt_irrefl _)
theorem sLt_trans {x y z : Str} (h1 : sLt x y = true) (h2 : sLt y z = true) : sLt x z = true := decide_eq_true (List.lt_trans (of_decide_eq_true h1) (of_decide_eq_true h2))
theorem sLt_total {x y : Str} (h : x ≠ y) : sLt x y = true ∨ sLt y x = true := by
  unfold sLt
  rcases Decidable.em (x.cps.toList < y.cps.toList) with z | z
  · exact .inl (decide_eq_true z)
  · rcases Decidable.em (y.cps.toList < x.cps.toList) with z2 | z2
    · exact .inr (decide_eq_true z2)
    · exact absurd (str_ext (List.le_antisymm (show x.cps.toList ≤ y.cps.toList from z2) (show y.cps.toList ≤ x.cps.toList from z))) h
theorem sLt_asymm {x y : Str} (h : sLt x y = true) : sLt y x = false := by
  cases z : sLt y x with
  | false => rfl
  | true => have t := sLt_trans h z; rw [sLt_irrefl] at t; cases t
/-! ### groups -/
/-- one group ahead of another -/
def ltL : List Str → List Str → Bool
  | [], [] => false
  | [], _ :: _ => true
  | _ :: _, [] => false
  | x :: xs, y :: ys => if x = y then ltL xs ys else sLt x y
theorem ltL_data : ∀ xs ys : List Str, PySem.W.dataLt (.tuple (xs.map .str)) (.tuple (ys.map .str)) = ltL xs ys
  | [], [] => PyProof.Rows.lex_irrefl (O := PyProof.Rows.itemOrd) _
  | [], y :: ys => by
    rw [PySem.W.dataLt_tuple]
    simp only [List.map_cons, List.map_nil, PySem.W.keyToksAll, ltL]
    rw [PyProof.Rows.lex_cons]; rfl
  | x :: xs, [] => by
    rw [PySem.W.dataLt_tuple]
    simp only [List.map_cons, List.map_nil, PySem.W.keyToksAll, ltL]
    rw [PyProof.Rows.lex_cons]; rfl
  | x :: xs, y :: ys => by
    have ih := ltL_data xs ys
    rw [PySem.W.dataLt_tuple] at ih ⊢
    rw [List.map_cons, List.map_cons, PySem.W.dataLt_cons (by simp [PySem.W.alike]), ih, PySem.W.dataLt_str, ltL]
    have e : PyData.eqv (.str x) (.str y) = decide (x = y) := by
      show (x == y) = _
      by_cases h : x = y
      · rw [h]; simp
      · simp [h]
    rw [e]
    by_cases h : x = y
    · simp [h]
    · simp [h, sLt]
theorem ltL_app {z : Str} : ∀ {a b : List Str} {x y : List Str}, a.length = b.length → ltL a b = true → ltL (a ++ x) (b ++ y) = true
  | [], [], _, _, _, h => by cases h
  | a :: as, b :: bs, x, y, hl, h => by
    rw [ltL] at h
    show (if a = b then ltL (as ++ x) (bs ++ y) else sLt a b) = true
    by_cases e : a = b
    · rw [if_pos e] at h ⊢
      exact ltL_app (z := z) (by simpa using hl) h
    · rw [if_neg e] at h ⊢; exact h
  | [], _ :: _, _, _, hl, _ => by cases hl
  | _ :: _, [], _, _, hl, _ => by cases hl
theorem ltL_same {x y : Str} (h : sLt x y = true) : ∀ a : List Str, ltL (a ++ [x]) (a ++ [y]) = true
  | [] => by
    have ne : x ≠ y := fun e => by rw [e, sLt_irrefl] at h; cases h
    show (if x = y then ltL [] [] else sLt x y) = true
    rw [if_neg ne]; exact h
  | a :: as => by
    show (if a = a then ltL (as ++ [x]) (as ++ [y]) else sLt a a) = true
    rw [if_pos rfl]; exact ltL_same h as
theorem ltL_irrefl : ∀ a : List Str, ltL a a = false
  | [] => rfl
  | a :: as => by rw [ltL, if_pos rfl]; exact ltL_irrefl as
/-! ### all groups of a size, as the program makes them -/
def okNext (p : List Str) (h : Str) : Bool := match p.getLast? with
  | none => true
  | some l => sLt l h
def stepP (hs : List Str) (found : List (List Str)) : List (List Str) := found.flatMap fun p => (hs.filter (okNext p)).map fun h => p ++ [h]
def partsP (hs : List Str) : Nat → List (List Str)
  | 0 => [[]]
  | n + 1 => stepP hs (partsP hs n)
def Asc (p : List Str) : Prop := p.Pairwise fun a b => sLt a b = true
theorem asc_snoc {p : List Str} {h : Str} : Asc (p ++ [h]) ↔ Asc p ∧ okNext p h = true := by
  unfold Asc okNext
  rw [List.pairwise_append]
  constructor
  · rintro ⟨h1, _, h3⟩
    refine ⟨h1, ?_⟩
    cases z : p.getLast? with
    | none => rfl
    | some l => exact h3 l (List.mem_of_getLast? z) h (by simp)
  · rintro ⟨h1, h2⟩
    refine ⟨h1, by simp, fun a ha b hb => ?_⟩
    have e : b = h := by simpa using hb
    subst e
    cases z : p.getLast? with
    | none =>
      have e : p = [] := by simpa using z
      subst e; cases ha
    | some l =>
      rw [z] at h2
      have h2 : sLt l b = true := h2
      obtain ⟨q, e⟩ : ∃ q, p = q ++ [l] := by
        rw [List.getLast?_eq_some_iff] at z; exact z
      subst e
      rcases List.mem_append.mp ha with ha | ha
      · exact sLt_trans ((List.pairwise_append.mp h1).2.2 a ha l (by simp)) h2
      · have e : a = l := by simpa using ha
        rw [e]; exact h2
theorem mem_partsP {hs : List Str} : ∀ {n : Nat} {p : List Str}, p ∈ partsP hs n ↔ p.length = n ∧ Asc p ∧ ∀ x ∈ p, x ∈ hs
  | 0, p => by
    rw [partsP, List.mem_singleton]
    constructor
    · rintro rfl; exact ⟨rfl, .nil, fun x h => by cases h⟩
    · rintro ⟨h, _⟩; exact List.eq_nil_of_length_eq_zero h
  | n + 1, p => by
    rw [partsP, stepP, List.mem_flatMap]
    constructor
    · rintro ⟨q, hq, hm⟩
      obtain ⟨h, hh, e⟩ := List.mem_map.mp hm
      obtain ⟨h1, h2⟩ := List.mem_filter.mp hh
      obtain ⟨g1, g2, g3⟩ := mem_partsP.mp hq
      subst e
      refine ⟨by rw [List.length_append, g1]; rfl, asc_snoc.mpr ⟨g2, h2⟩, fun x hx => ?_⟩
      rcases List.mem_append.mp hx with hx | hx
      · exact g3 x hx
      · have e : x = h := by simpa using hx
        rw [e]; exact h1
    · rintro ⟨h1, h2, h3⟩
      rcases List.eq_nil_or_concat p with e | ⟨q, h, e⟩
      · subst e; cases h1
      · rw [List.concat_eq_append] at e
        subst e
        obtain ⟨a1, a2⟩ := asc_snoc.mp h2
        refine ⟨q, mem_partsP.mpr ⟨by simpa using h1, a1, fun x hx => h3 x (List.mem_append_left _ hx)⟩, List.mem_map.mpr ⟨h, List.mem_filter.mpr ⟨h3 h (by simp), a2⟩, rfl⟩⟩
theorem partsP_lt {hs : List Str} (hh : Asc hs) : ∀ n, (partsP hs n).Pairwise fun a b => ltL a b = true
  | 0 => by simp [partsP]
  | n + 1 => by
    rw [partsP, stepP, List.pairwise_flatMap]
    refine ⟨fun p hp => ?_, ?_⟩
    · rw [List.pairwise_map]
      exact (List.Pairwise.filter _ hh).imp fun {a b} h => ltL_same h p
    · have z := partsP_lt hh n
      have hl : ∀ p ∈ partsP hs n, p.length = n := fun p hp => (mem_partsP.mp hp).1
      refine List.Pairwise.imp_of_mem (fun {a b} ha hb h => ?_) z
      intro x hx y hy
      obtain ⟨u, _, e1⟩ := List.mem_map.mp hx
      obtain ⟨v, _, e2⟩ := List.mem_map.mp hy
      subst e1 e2
      exact ltL_app (z := u) ((hl a ha).trans (hl b hb).symm) h
/-! ### as the law makes them -/
def stepW (size : Nat) (found : List (List Str)) (x : Str) : List (List Str) := found ++ (found.filter fun p => decide (p.length < size)).map fun p => p ++ [x]
def allW (size : Nat) (hs : List Str) : List (List Str) := hs.foldl (stepW size) [[]]
theorem sub_snoc {α : Type} {p xs : List α} {x : α} : p.Sublist (xs ++ [x]) ↔ p.Sublist xs ∨ ∃ q, q.Sublist xs ∧ p = q ++ [x] := by
  rw [List.sublist_append_iff]
  constructor
  · rintro ⟨a, b, e, h1, h2⟩
    rcases List.sublist_cons_iff.mp h2 with h2 | ⟨r, e2, h2⟩
    · have e3 : b = [] := List.sublist_nil.mp h2
      subst e3 e
      exact .inl (by simpa using h1)
    · have e3 : r = [] := List.sublist_nil.mp h2
      subst e3 e2 e
      exact .inr ⟨a, h1, rfl⟩
  · rintro (h | ⟨q, h, e⟩)
    · exact ⟨p, [], by simp, h, List.nil_sublist _⟩
    · exact ⟨q, [x], e, h, List.Sublist.refl _⟩
theorem allW_snoc {size : Nat} {hs : List Str} {x : Str} : allW size (hs ++ [x]) = stepW size (allW size hs) x := by
  unfold allW; rw [List.foldl_append]; rfl
theorem mem_allW {size : Nat} : ∀ (n : Nat) {hs : List Str}, hs.length = n → ∀ {p : List Str}, p ∈ allW size hs ↔ p.Sublist hs ∧ p.length ≤ size
  | 0, hs, e, p => by
    have e := List.eq_nil_of_length_eq_zero e
    subst e
    show p ∈ [[]] ↔ _
    rw [List.mem_singleton, List.sublist_nil]
    constructor
    · rintro rfl; exact ⟨rfl, Nat.zero_le _⟩
    · exact fun h => h.1
  | n + 1, hs, e, p => by
    rcases List.eq_nil_or_concat hs with e1 | ⟨ys, x, e1⟩
    · subst e1; cases e
    · rw [List.concat_eq_append] at e1
      subst e1
      have ih := @mem_allW size n ys (by simpa using e)
      rw [allW_snoc, stepW, List.mem_append, sub_snoc, ih]
      constructor
      · rintro (⟨h1, h2⟩ | h)
        · exact ⟨.inl h1, h2⟩
        · obtain ⟨q, hq, e2⟩ := List.mem_map.mp h
          obtain ⟨g1, g2⟩ := List.mem_filter.mp hq
          have g2 : q.length < size := by simpa using g2
          subst e2
          exact ⟨.inr ⟨q, (ih.mp g1).1, rfl⟩, by rw [List.length_append]; show q.length + 1 ≤ size; omega⟩
      · rintro ⟨h1 | ⟨q, h1, e2⟩, h2⟩
        · exact .inl ⟨h1, h2⟩
        · subst e2
          rw [List.length_append] at h2
          have h3 : q.length < size := h2
          exact .inr (List.mem_map.mpr ⟨q, List.mem_filter.mpr ⟨ih.mpr ⟨h1, by omega⟩, by simpa using h3⟩, rfl⟩)
theorem allW_nodup {size : Nat} : ∀ (n : Nat) {hs : List Str}, hs.length = n → hs.Nodup → (allW size hs).Nodup
  | 0, hs, e, _ => by
    have e := List.eq_nil_of_length_eq_zero e
    subst e
    show ([[]] : List (List Str)).Nodup
    simp
  | n + 1, hs, e, hn => by
    rcases List.eq_nil_or_concat hs with e1 | ⟨ys, x, e1⟩
    · subst e1; cases e
    · rw [List.concat_eq_append] at e1
      subst e1
      have hl : ys.length = n := by simpa using e
      rw [List.nodup_append] at hn
      have ih := allW_nodup (size := size) n hl hn.1
      rw [allW_snoc, stepW, List.nodup_append]
      refine ⟨ih, ?_, fun a ha b hb => ?_⟩
      · refine List.Pairwise.map _ (fun a b h => ?_) (List.Pairwise.filter _ ih)
        intro e; exact h (List.append_cancel_right e)
      · intro e
        subst e
        obtain ⟨q, _, e2⟩ := List.mem_map.mp hb
        have s := ((mem_allW n hl).mp ha).1
        have : x ∈ ys := s.subset (by rw [← e2]; simp)
        exact hn.2.2 x this x (by simp) rfl
theorem allW_len {size : Nat} : ∀ (n : Nat) {hs : List Str}, hs.length = n → (allW size hs).length ≤ 2 ^ n
  | 0, hs, e => by
    have e := List.eq_nil_of_length_eq_zero e
    subst e; exact Nat.le_refl _
  | n + 1, hs, e => by
    rcases List.eq_nil_or_concat hs with e1 | ⟨ys, x, e1⟩
    · subst e1; cases e
    · rw [List.concat_eq_append] at e1
      subst e1
      have ih := allW_len (size := size) n (hs := ys) (by simpa using e)
      rw [allW_snoc, stepW, List.length_append, List.length_map]
      have := List.length_filter_le (fun p => decide (p.length < size)) (allW size ys)
      rw [Nat.pow_succ]
      omega
theorem asc_nodup {hs : List Str} (h : Asc hs) : hs.Nodup := h.imp fun {a b} z e => by rw [e, sLt_irrefl] at z; cases z
/-- an ascending part of an ascending list is a sublist -/
theorem asc_sub : ∀ {hs p : List Str}, Asc hs → Asc p → (∀ x ∈ p, x ∈ hs) → p.Sublist hs
  | hs, [], _, _, _ => List.nil_sublist _
  | [], x :: p, _, _, h => by cases h x List.mem_cons_self
  | y :: hs, x :: p, h1, h2, h => by
    have h1' := List.pairwise_cons.mp h1
    have h2' := List.pairwise_cons.mp h2
    by_cases e : x = y
    · subst e
      refine .cons₂ _ (asc_sub h1'.2 h2'.2 fun z hz => ?_)
      rcases List.mem_cons.mp (h z (List.mem_cons_of_mem _ hz)) with e | k
      · subst e
        have := h2'.1 z hz
        rw [sLt_irrefl] at this; cases this
      · exact k
    · refine .cons _ (asc_sub h1'.2 h2 fun z hz => ?_)
      rcases List.mem_cons.mp (h z hz) with e2 | k
      · -- y is x or behind x: x is behind y
        subst e2
        have hx : x ∈ hs := by
          rcases List.mem_cons.mp (h x List.mem_cons_self) with e3 | k
          · exact absurd e3 e
          · exact k
        have l1 := h1'.1 x hx
        rcases List.mem_cons.mp hz with e4 | hz
        · exact absurd e4.symm e
        · have l2 := h2'.1 z hz
          rw [sLt_asymm l1] at l2; cases l2
      · exact k
/-- THE LAW of both -/
theorem parts_perm {hs : List Str} (hh : Asc hs) (n : Nat) : ((allW n hs).filter fun p => decide (p.length = n)).Perm (partsP hs n) := by
  refine (List.perm_ext_iff_of_nodup (List.Pairwise.filter _ (allW_nodup _ rfl (asc_nodup hh))) ((partsP_lt hh n).imp fun {a b} z e => by rw [e, ltL_irrefl] at z; cases z)).mpr fun p => ?_
  rw [List.mem_filter, mem_allW _ rfl, mem_partsP]
  constructor
  · rintro ⟨⟨h1, _⟩, h2⟩
    exact ⟨by simpa using h2, List.Pairwise.sublist h1 hh, fun x hx => h1.subset hx⟩
  · rintro ⟨h1, h2, h3⟩
    exact ⟨⟨asc_sub hh h2 h3, by omega⟩, by simpa using h1⟩
end BM

set_option Elab.async false
set_option linter.all false
set_option maxRecDepth 100000
set_option maxHeartbeats 4000000
/-! BM, part 21: texts, groups and lists of groups as data. -/
namespace BM
open PySem PySem.Spec PyProof.Rows L2
abbrev fo (g : List Str) : D := .tup (g.map D.str)
abbrev lo (l : List (List Str)) : D := .tup (l.map fo)
abbrev ll (l : List (List Str)) : D := .lst (l.map fo)
def unfo : D → List Str
  | .tup l => l.map strD
  | _ => []
theorem unfo_fo (g : List Str) : unfo (fo g) = g := by
  show (g.map D.str).map strD = g
  rw [List.map_map]; exact List.map_id _
def gT (g : List Str) : PyData := .tuple (g.map .str)
/-- texts that may be compared -/
def okT (x : Str) : Prop := PyData.strOk x = true ∧ x.length ≤ 40
theorem pys_str : ∀ g : List Str, D.pys (g.map D.str) = some (g.map PyData.str)
  | [] => by simp [D.pys]
  | x :: g => by rw [List.map_cons, D.pys, pys_str g, D.py]; rfl
theorem py_fo (g : List Str) : D.py (fo g) = some (gT g) := by rw [D.py, pys_str]; rfl
theorem pys_fo : ∀ l : List (List Str), D.pys (l.map fo) = some (l.map gT)
  | [] => by simp [D.pys]
  | x :: g => by rw [List.map_cons, D.pys, pys_fo g, py_fo]; rfl
theorem py_lo (l : List (List Str)) : D.py (lo l) = some (.tuple (l.map gT)) := by rw [D.py, pys_fo]
theorem py_ll (l : List (List Str)) : D.py (ll l) = some (.list (l.map gT)) := by rw [D.py, pys_fo]
theorem can_str : ∀ {g : List Str}, (∀ x ∈ g, okT x) → PyData.canLayAll0 (g.map .str) = true
  | [], _ => by simp [PyData.canLayAll0]
  | x :: g, h => by
    rw [List.map_cons, PyData.canLayAll0, can_str fun y hy => h y (List.mem_cons_of_mem _ hy), PyData.canLay0, (h x List.mem_cons_self).1]; rfl
theorem depth_str : ∀ g : List Str, PyData.depthAll (g.map .str) = 0
  | [] => by simp [PyData.depthAll]
  | x :: g => by rw [List.map_cons, PyData.depthAll, depth_str g, PyData.depth]; rfl
theorem can_gT {g : List Str} (h : ∀ x ∈ g, okT x) : (gT g).canLay0 = true := by
  unfold gT; rw [PyData.canLay0]; exact can_str h
theorem depth_gT (g : List Str) : (gT g).depth = 1 := by
  unfold gT; rw [PyData.depth, depth_str]
theorem can_gTs : ∀ {l : List (List Str)}, (∀ g ∈ l, ∀ x ∈ g, okT x) → PyData.canLayAll0 (l.map gT) = true
  | [], _ => by simp [PyData.canLayAll0]
  | x :: g, h => by
    rw [List.map_cons, PyData.canLayAll0, can_gTs fun y hy => h y (List.mem_cons_of_mem _ hy), can_gT (h x List.mem_cons_self)]; rfl
theorem depth_gTs : ∀ l : List (List Str), PyData.depthAll (l.map gT) ≤ 1
  | [] => by simp [PyData.depthAll]
  | x :: g => by
    rw [List.map_cons, PyData.depthAll, depth_gT]
    have := depth_gTs g
    omega
theorem shaped_gT {g : List Str} (h : ∀ x ∈ g, okT x) : SeqAt.shaped (gT g) = true := by
  unfold SeqAt.shaped; rw [can_gT h, depth_gT]; rfl
theorem shaped_str {x : Str} (h : okT x) : SeqAt.shaped (.str x) = true := by
  unfold SeqAt.shaped; rw [PyData.canLay0, h.1, PyData.depth]; rfl
theorem shaped_strs {g : List Str} (h : ∀ x ∈ g, okT x) : SeqAt.shaped (.list (g.map .str)) = true := by
  unfold SeqAt.shaped; rw [PyData.canLay0, can_str h, PyData.depth, depth_str]; rfl
theorem shaped_lo {l : List (List Str)} (h : ∀ g ∈ l, ∀ x ∈ g, okT x) : SeqAt.shaped (.tuple (l.map gT)) = true := by
  unfold SeqAt.shaped
  rw [PyData.canLay0, can_gTs h, PyData.depth]
  have := depth_gTs l
  simp; omega
theorem any_eqv {g : List Str} {x : Str} : ((g.map PyData.str).any fun z => PyData.eqv z (.str x)) = decide (x ∈ g) := by
  rw [List.any_map]
  induction g with
  | nil => simp
  | cons y g ih =>
    rw [List.any_cons, ih]
    show ((y == x) || _) = _
    by_cases h : y = x
    · subst h; simp
    · have h2 : ¬ x = y := fun e => h e.symm
      simp [h, h2]
theorem fIn_fo {x : Str} {g : List Str} (hx : okT x) (hg : ∀ y ∈ g, okT y) : fIn (.str x) (fo g) = some (decide (x ∈ g)) := by
  unfold fIn
  simp only [pys_str, D.py]
  rw [if_pos (by rw [shaped_str hx, shaped_strs hg]; rfl), any_eqv]
theorem fNotIn_fo {x : Str} {g : List Str} (hx : okT x) (hg : ∀ y ∈ g, okT y) : fNotIn (.str x) (fo g) = some (!decide (x ∈ g)) := by
  unfold fNotIn; rw [fIn_fo hx hg]
theorem fEq_fo0 {g : List Str} (hg : ∀ y ∈ g, okT y) : fEq (fo g) (.tup []) = some g.isEmpty := by
  show fEqD _ _ = _
  unfold fEqD
  rw [py_fo, show D.py (.tup []) = some (gT []) from py_fo []]
  simp only
  rw [if_pos (by rw [shaped_gT hg, shaped_gT (g := []) fun _ h => by cases h]; rfl)]
  cases g <;> rfl
theorem fEq_lo0 {l : List (List Str)} (hl : ∀ g ∈ l, ∀ y ∈ g, okT y) : fEq (lo l) (.tup []) = some l.isEmpty := by
  show fEqD _ _ = _
  unfold fEqD
  rw [py_lo, show D.py (.tup []) = some (.tuple ([].map gT)) from py_lo []]
  simp only
  rw [if_pos (by rw [shaped_lo hl, shaped_lo (l := []) fun _ h => by cases h]; rfl)]
  cases l <;> rfl
theorem py_strs (g : List Str) : D.py (.lst (g.map D.str)) = some (.list (g.map .str)) := by rw [D.py, pys_str]
theorem fNe_strs0 {g : List Str} (hg : ∀ y ∈ g, okT y) : fNe (.lst (g.map D.str)) (.lst []) = some (!g.isEmpty) := by
  show (match fEqD (.lst (g.map D.str)) (.lst []) with | some k => some (!k) | none => none) = _
  unfold fEqD
  rw [py_strs, show D.py (.lst []) = some (.list ([].map .str)) from py_strs []]
  simp only
  rw [if_pos (by rw [shaped_strs hg, shaped_strs (g := []) fun _ h => by cases h]; rfl)]
  cases g <;> rfl
theorem fEq_ints0 {g : List Int} : fEq (.lst (g.map D.int)) (.lst []) = some g.isEmpty := by
  have hi : (g.map D.int).all isInt = true := by rw [List.all_map, List.all_eq_true]; intro x _; rfl
  obtain ⟨ps, h1, h2, h3, h4⟩ := pys_ints hi
  show fEqD _ _ = _
  unfold fEqD
  rw [show D.py (.lst (g.map D.int)) = some (.list ps) by rw [D.py, h1], show D.py (.lst []) = some (.list []) by rw [D.py, D.pys]]
  simp only
  rw [if_pos (by unfold SeqAt.shaped; rw [PyData.canLay0, h3, PyData.depth, h4]; rfl)]
  cases g with
  | nil =>
    cases ps with
    | nil => rfl
    | cons => simp at h2
  | cons x g =>
    cases ps with
    | nil => simp at h2
    | cons => rfl
/-! ### what is shown -/
theorem sz_gT {g : List Str} (h : ∀ x ∈ g, okT x) : sz (gT g) ≤ g.length * 404 + 3 := by
  unfold gT
  rw [sz]
  have := szs_le (B := 402) (l := g.map PyData.str) fun p hp => by
    obtain ⟨x, hx, e⟩ := List.mem_map.mp hp
    subst e
    rw [sz]
    have := (h x hx).2
    omega
  rw [List.length_map] at this
  omega
theorem showable_strs : ∀ g : List Str, PyData.showableAll (g.map .str) = true
  | [] => by simp [PyData.showableAll]
  | x :: g => by rw [List.map_cons, PyData.showableAll, showable_strs g, PyData.showable]; rfl
theorem nodict_strs : ∀ g : List Str, PyData.hasDictAll (g.map .str) = false
  | [] => by simp [PyData.hasDictAll]
  | x :: g => by rw [List.map_cons, PyData.hasDictAll, nodict_strs g, PyData.hasDict]; rfl
theorem showable_gTs : ∀ l : List (List Str), PyData.showableAll (l.map gT) = true
  | [] => by simp [PyData.showableAll]
  | x :: g => by rw [List.map_cons, PyData.showableAll, showable_gTs g]; unfold gT; rw [PyData.showable, showable_strs]; rfl
theorem nodict_gTs : ∀ l : List (List Str), PyData.hasDictAll (l.map gT) = false
  | [] => by simp [PyData.hasDictAll]
  | x :: g => by rw [List.map_cons, PyData.hasDictAll, nodict_gTs g]; unfold gT; rw [PyData.hasDict, nodict_strs]; rfl
/-- a value whose repr is at hand -/
structure Shw (d : D) (p : PyData) (B : Nat) : Prop where
  py : D.py d = some p
  can : p.canLay0 = true
  dp : p.depth ≤ 3
  sh : p.showable = true
  nd : p.hasDict = false
  le : sz p ≤ B
theorem shw_fo {g : List Str} (h : ∀ x ∈ g, okT x) : Shw (fo g) (gT g) (g.length * 404 + 3) :=
  ⟨py_fo g, can_gT h, by rw [depth_gT]; decide, by unfold gT; rw [PyData.showable, showable_strs], by unfold gT; rw [PyData.hasDict, nodict_strs], sz_gT h⟩
theorem shw_lo {l : List (List Str)} {B : Nat} (h : ∀ g ∈ l, (∀ x ∈ g, okT x) ∧ g.length ≤ B) : Shw (lo l) (.tuple (l.map gT)) (l.length * (B * 404 + 5) + 3) := by
  refine ⟨py_lo l, by rw [PyData.canLay0]; exact can_gTs fun g hg => (h g hg).1, ?_, by rw [PyData.showable, showable_gTs], by rw [PyData.hasDict, nodict_gTs], ?_⟩
  · rw [PyData.depth]
    have := depth_gTs l
    omega
  · rw [sz]
    have := szs_le (B := B * 404 + 3) (l := l.map gT) fun p hp => by
      obtain ⟨g, hg, e⟩ := List.mem_map.mp hp
      subst e
      have z := sz_gT (h g hg).1
      have z2 : g.length * 404 ≤ B * 404 := Nat.mul_le_mul_right _ (h g hg).2
      omega
    rw [List.length_map] at this
    exact Nat.add_le_add_right this 3
theorem shw_two {d : D} {p : PyData} {B : Nat} (h : Shw d p B) (h2 : p.depth ≤ 2) : Shw (.lst [d, d]) (.list [p, p]) (2 * B + 7) := by
  refine ⟨by simp [D.py, D.pys, h.py], by simp [PyData.canLay0, PyData.canLayAll0, h.can], by simp [PyData.depth, PyData.depthAll]; omega, by simp [PyData.showable, PyData.showableAll, h.sh], by simp [PyData.hasDict, PyData.hasDictAll, h.nd], ?_⟩
  have := h.le
  simp [sz, szs]; omega
theorem fRepr_of {d : D} {p : PyData} {B : Nat} (h : Shw d p B) (hB : B ≤ sizeLine) : fRepr d = some (.d (.str p.shown)) := by
  unfold fRepr
  rw [h.py]
  simp only
  rw [if_pos ?_]
  have z := Nat.le_trans (shown_len h.can) (Nat.le_trans h.le hB)
  have z2 : p.depth ≤ 60 := Nat.le_trans h.dp (by decide)
  simp [h.sh, h.nd, z, z2]
theorem fNe_same (x : Str) : fNe (.str x) (.str x) = some false := by
  show some (!decide (x = x)) = _
  simp
end BM

set_option Elab.async false
set_option linter.all false
set_option maxRecDepth 100000
set_option maxHeartbeats 4000000
/-! BM, part 22: sorted(set(t)), t a tuple of different texts. -/
namespace BM
open PySem PySem.Spec PyProof.Rows L2
def isTxD : D → Bool
  | .str _ => true
  | _ => false
def fSortedSet (d : D) : Option O := match d with
  | .tup l => if (l.all isTxD && decide (l.map strD).Nodup && decide (l.length < 64)) = true then some (.lst (leaf (srtD l))) else none
  | _ => none
theorem txs_of : ∀ {l : List D}, l.all isTxD = true → l = (l.map strD).map D.str
  | [], _ => rfl
  | d :: l, h => by
    rw [List.all_cons, Bool.and_eq_true] at h
    cases d with
    | str x =>
      show D.str x :: l = D.str x :: (l.map strD).map D.str
      rw [← txs_of h.2]
    | _ => exact absurd h.1 (by simp [isTxD])
/-- different texts have one order -/
theorem srt_txs {l : List Str} (hn : l.Nodup) : ∃ r : List Str, Asc r ∧ r.Perm l ∧ ∀ l2 : List Str, l2.Perm l → srtD (l2.map D.str) = r.map D.str := by
  let le : Str → Str → Bool := fun a b => !sLt b a
  have tr : ∀ a b c, le a b = true → le b c = true → le a c = true := by
    intro a b c h1 h2
    show (!sLt c a) = true
    cases z : sLt c a with
    | false => rfl
    | true =>
      have h1 : (!sLt b a) = true := h1
      have h2 : (!sLt c b) = true := h2
      by_cases e : b = c
      · subst e; rw [z] at h1; cases h1
      · rcases sLt_total e with q | q
        · rw [sLt_trans q z] at h1; cases h1
        · rw [q] at h2; cases h2
  have to : ∀ a b, (le a b || le b a) = true := by
    intro a b
    show (!sLt b a || !sLt a b) = true
    cases z : sLt b a with
    | false => rfl
    | true => rw [sLt_asymm z]; rfl
  have p := List.mergeSort_perm l le
  have asc : Asc (l.mergeSort le) := by
    have nd := p.symm.nodup hn
    have pw := List.pairwise_mergeSort tr to l
    refine (List.Pairwise.and pw nd).imp fun {a b} z => ?_
    obtain ⟨z1, z2⟩ := z
    have z1 : (!sLt b a) = true := z1
    rcases sLt_total z2 with q | q
    · exact q
    · rw [q] at z1; cases z1
  refine ⟨l.mergeSort le, asc, p, fun l2 p2 => srt_unique ((p2.trans p.symm).map D.str) ?_⟩
  rw [List.pairwise_map]
  exact asc.imp fun {a b} z => by
    rw [show pyD (.str a) = .str a from rfl, show pyD (.str b) = .str b from rfl, PySem.W.dataLt_str]
    exact z
theorem srtT_map (l : List Str) : (srtT l).map D.str = srtD (l.map D.str) := by
  unfold srtT srtD
  rw [List.map_mergeSort (r := PySem.W.dataLe false PyData.str) (s := PySem.W.dataLe false pyD) (f := D.str) (fun _ _ _ _ => rfl)]
section
variable {K : PySem.W.Frag} {H : Hp} {L : List It}
theorem St.texts (h : St K H L) : ∀ ks : List Str, St K H (reps (leaf (ks.map D.str)) (ks.map V.str) ++ L)
  | [] => h
  | k :: ks => (St.texts h ks).flat (d := .str k) (v := .str k) rfl
theorem reps_txs : ∀ {ks : List Str} {vs : List V}, Reps K H (ks.map D.str) vs → vs = ks.map V.str
  | [], vs, h => by
    have h : Reps K H [] vs := h
    rw [Reps] at h
    exact h
  | k :: ks, vs, h => by
    have h : Reps K H (.str k :: ks.map D.str) vs := h
    rw [Reps] at h
    obtain ⟨v, r, e, h1, h2⟩ := h
    rw [Rep] at h1
    subst e h1
    rw [reps_txs h2]; rfl
end
section
variable {Γ : Gm} {e : Expr} {p1 p2 pos pos2 : Pos} {ms : List (M Od)}
theorem sd_sortedSet (h : Sods Γ [e] ms) (hg1 : Γ.glo "sorted" = true) (hm1 : Γ.cfg.mg "sorted" = none) (hg2 : Γ.glo "set" = true) (hm2 : Γ.cfg.mg "set" = none) (hn : NoStars [e] := by exact ns_cons ns_nil) :
    Sd Γ (.Call (.Name "sorted" p1) [.Call (.Name "set" p2) [e] [] pos2] [] pos) (mOp (w1 fSortedSet) ms) := ⟨fun X ok env o env' hm' σ H T hr Q q => by
  obtain ⟨ds, h1, h2⟩ := mOp_some hm'
  refine ⟨_, pe_callB (call_best X (.builtin "sorted")) (ok.glo hg1) (by rw [ok.hmg]; exact hm1) boot_sorted
    (pa_cons (pe_callTy (call_best X (.type "set")) (ok.glo hg2) (by rw [ok.hmg]; exact hm2) PyProof.Rows.boot_set (pa_of hn) (by decide) (by decide) (ns_head hn _) (backTo_plain (ns_tail hn))) pa_nil), ?_⟩
  show WL X [e] σ H (fun xs H1 => WC X (.type "set") xs H1 fun v H2 => WC X (.builtin "sorted") [v] H2 Q)
  refine h.ops.run X ok env ds env' h1 σ H T hr _ fun vs H' L hS hL back => ?_
  match ds, vs, hL, h2 with
  | [d], [x], .cons lx .nil, h2 =>
    have h2 : fSortedSet d = some o := h2
    cases d with
    | tup l =>
      by_cases hz : (l.all isTxD && decide (l.map strD).Nodup && decide (l.length < 64)) = true
      · have h2 : (if (l.all isTxD && decide (l.map strD).Nodup && decide (l.length < 64)) = true then some (O.lst (leaf (srtD l))) else none) = some o := h2
        rw [if_pos hz] at h2
        have e1 := Option.some.inj h2
        subst e1
        simp only [Bool.and_eq_true, decide_eq_true_eq] at hz
        obtain ⟨⟨z1, z2⟩, z3⟩ := hz
        generalize hks : l.map strD = ks at z2
        have el : l = ks.map D.str := by rw [← hks]; exact txs_of z1
        subst el
        rw [List.length_map] at z3
        obtain ⟨a, xs, e1, k1, l1, s1⟩ := Look.tup hS lx
        subst e1
        have ex := reps_txs (St.repsH l1 s1)
        subst ex
        obtain ⟨r, asc, pr, uniq⟩ := srt_txs z2
        refine ⟨_, cr_setTx ok.calm, a, ks, rfl, by rw [ok.hK]; exact k1, z2, z3, fun b hb => ?_⟩
        refine ⟨_, cr_sortTx ok.calm ok.room.units, b, ks, rfl, upd_same, z3, fun ks2 p pm hp => ?_⟩
        refine q _ _ (back _ [_] ?_)
        have e3 : srtD (ks.map D.str) = (srtT ks2).map D.str := by rw [srtT_map, uniq ks (List.Perm.refl _), uniq ks2 pm]
        rw [e3]
        exact St.newLst (by rw [List.length_map, List.length_map]) hp (St.texts (St.grow hb hS) _)
      · have h2 : (if (l.all isTxD && decide (l.map strD).Nodup && decide (l.length < 64)) = true then some (O.lst (leaf (srtD l))) else none) = some o := h2
        rw [if_neg hz] at h2; cases h2
    | _ => cases h2
  | [], _, _, h2 => cases h2
  | _ :: _ :: _, _, _, h2 => cases h2⟩
end
end BM

set_option Elab.async false
set_option linter.all false
set_option maxRecDepth 100000
set_option maxHeartbeats 4000000
/-! BM, part 23: enumerate. -/
namespace BM
open PySem PySem.Spec PyProof.Rows L2
/-- the items with their numbers -/
@[reducible] def enumD (l : List D) : List D := l.zipIdx.map fun p => .tup [.int (p.2 : Nat), p.1]
theorem enumD_len (l : List D) : (enumD l).length = l.length := by unfold enumD; simp
theorem enumD_at (l : List D) (i : Nat) (h : i < (enumD l).length) : (enumD l)[i] = .tup [.int (i : Nat), l[i]'(by rw [enumD_len] at h; exact h)] := by
  rw [List.getElem_map, List.getElem_zipIdx, Nat.zero_add]
def iEn (m : M O) : M (List D) := fun s => match m s with
  | some (o, s') => match o.toD with
    | .lst l => some (enumD l, s')
    | _ => none
  | none => none
section
variable {Γ : Gm} {e : Expr} {m : M O} {p pos tpos : Pos} {elts : List Expr} {kk : Nat}
theorem si_enum (h : Sd Γ e m) (hg : Γ.glo "enumerate" = true) (hmg : Γ.cfg.mg "enumerate" = none) (hn : NoStars [e] := by exact ns_cons ns_nil) (hs : ∀ env : PySem.Env, starEach [e] env = [(false, eval e env)] := by intro _; rfl) :
    Si Γ (.Tuple elts kk tpos) (.Call (.Name "enumerate" p) [e] [] pos) (iEn m) := ⟨fun X ok env ds env' hm σ H T hr R q => by
  unfold iEn at hm
  cases q1 : m env with
  | none => rw [q1] at hm; cases hm
  | some r =>
    obtain ⟨o, s1⟩ := r
    rw [q1] at hm
    cases q2 : o.toD with
    | lst l =>
      simp only [q2] at hm
      have e1 := Option.some.inj hm
      injection e1 with e1 e2
      subst e1 e2
      refine ⟨_, pi_enum (ok.glo hg) (by rw [ok.hmg]; exact hmg) (pa_of hn) (hs X.env), ?_⟩
      refine h.run X ok env o s1 q1 σ H T hr _ fun v H1 r1 => ?_
      have r1 := r1.freeze
      rw [q2] at r1
      obtain ⟨a, vs, e1, h1⟩ : ∃ a vs, v = .ref a ∧ SqL Γ.cfg.K H1 a vs := by
        obtain ⟨L, _, hS⟩ := r1
        obtain ⟨a, vs, e1, h1, _⟩ := hS.read_lst
        exact ⟨a, vs, e1, h1⟩
      subst e1
      refine ⟨a, vs, rfl, by rw [ok.hK]; exact h1, ?_⟩
      refine q _ H1 [.rep (.d (.lst l)) (.ref a)] ⟨fun i H2 L hi hS => ?_, fun H2 L hS => ?_, fun i H2 L x H' hi hS hy => ?_⟩ r1
      · obtain ⟨a', ws, e1, g1, g2, g3⟩ := St.read_lst (L := L) hS
        cases e1
        rw [enumD_len] at hi
        rw [ok.hK]
        exact ⟨ws, ws[i]'(by omega), g1, by simp [show i < ws.length by omega]⟩
      · obtain ⟨a', ws, e1, g1, g2, g3⟩ := St.read_lst (L := L) hS
        cases e1
        rw [ok.hK]
        exact ⟨ws, g1, by rw [enumD_len]; omega⟩
      · obtain ⟨a', ws, e1, g1, g2, g3⟩ := St.read_lst (L := L) hS
        cases e1
        rw [ok.hK] at hy
        obtain ⟨T', x', rfl, hT, rfl, y2⟩ := hy
        have hi' : i < l.length := by rw [enumD_len] at hi; exact hi
        have s2 := (reps_pick g2 g3 hi' (y2 ws g1)).flat (d := .int (i : Nat)) (v := .int (i : Nat)) rfl
        rw [enumD_at]
        exact St.newTup (ds := [.int (i : Nat), l[i]]) (vs := [.int (i : Nat), x']) rfl hT s2
    | non => simp only [q2] at hm; cases hm
    | bl _ => simp only [q2] at hm; cases hm
    | int _ => simp only [q2] at hm; cases hm
    | str _ => simp only [q2] at hm; cases hm
    | tup _ => simp only [q2] at hm; cases hm
    | dct _ => simp only [q2] at hm; cases hm
    | obj _ _ _ => simp only [q2] at hm; cases hm⟩
end
end BM

set_option Elab.async false
set_option linter.all false
set_option maxRecDepth 100000
set_option maxHeartbeats 4000000
/-! BM, part 24: dicts: {}, setdefault(k, []).append(v), values(). -/
namespace BM
open PySem PySem.Spec PyProof.Rows L2
section
variable {Γ : Gm} {tg iter elt : Expr} {ifs : List Expr} {scope : Scope} {pos : Pos} {src : M (List D)} {g : D → M Unit} {t : M Bool} {me : M O} {A : List Nat} {own : List (Str × Nat)}
/-- the reading of a comprehension whose source is at hand; what is walked is kept -/
theorem lc_readW {J : L2.It} {ds : List D} {TI : List It} (wk : WalkD Γ.cfg.K J ds TI) (hk : scope.kind = .function) (hg : Sg (Γ.blk scope) tg g A) (ht : Sts (Γ.blk scope) ifs t) (he : Sd (Γ.blk scope) elt me) (hA : ∀ i ∈ A, i ∈ own.map (·.2))
    {X : Cx} (ok : Γ.Ok X) {s1 : Env} {o : O} {env' : Env} (hm : mLc (own.map (·.2)) (fun s => some (ds, s)) g t me s1 = some (o, env')) {σ : L2.St} {H1 : Hp} {T : List It} (r1 : RS Γ.cfg.K H1 s1 σ (TI ++ T)) {Q : VK}
    (hsrc : ∀ R : L2.It → Hp → Prop, R J H1 → WIt X tg iter σ H1 R)
    (q : ∀ v H', RS Γ.cfg.K H' env' σ (.rep o v :: (TI ++ T)) → Q v H') : tLc (WIt X tg iter) (gAll (Γ.blk scope) tg) (tAll (Γ.blk scope) ifs) (eAll (Γ.blk scope) elt) (own.map (·.2)) σ H1 Q := by
  obtain ⟨ds', s1', l, s2, h1, h2, hl, e1⟩ := mLc_some hm
  have e0 := Option.some.inj (show some (ds, s1) = some (ds', s1') from h1)
  injection e0 with e0 e00
  subst e0 e00
  injection e1 with e1 e2
  subst e1 e2
  generalize hw : own.map (·.2) = ow at *
  refine hsrc _ ?_
  intro Dl hD
  refine ⟨fun i n H' => n = ds.length - i ∧ i ≤ ds.length ∧ ∃ s acc rest, RS Γ.cfg.K H' s (L2.wipe σ ow) (.rep (.lst acc) (.ref Dl) :: (TI ++ T)) ∧ (∀ i ∈ ow, ∀ o, s[i]? ≠ some (some o)) ∧ lcL ow g t me (ds.drop i) s = some (rest, env') ∧ acc ++ rest = l,
    ⟨ds.length, rfl, Nat.zero_le _, wipeE s1 ow, [], l, ?_, fun i hi o => wipeE_none hi, h2, rfl⟩, ?_⟩
  · refine RS.lift (fun L h => ?_) (r1.wipe ow)
    exact St.close_lst (os := []) (vs := []) rfl (St.alloc hD h)
  rintro i n H2 ⟨rfl, hle, s, acc, rest, r2, hn, h3, ha⟩
  by_cases hlt : i < ds.length
  · right
    obtain ⟨L, hE, hS⟩ := id r2
    have hS' : St Γ.cfg.K H2 (TI ++ (.rep (.lst acc) (.ref Dl) :: (T ++ L))) := by
      refine hS.perm ?_
      show (It.rep (.lst acc) (.ref Dl) :: (TI ++ T ++ L)).Perm _
      rw [List.append_assoc]
      exact List.perm_middle.symm
    refine ⟨wk.go i H2 _ hlt hS', fun H' => ∃ s acc rest, RS Γ.cfg.K H' s (L2.wipe σ ow) (.rep (.lst acc) (.ref Dl) :: (TI ++ T)) ∧ (∀ i ∈ ow, ∀ o, s[i]? ≠ some (some o)) ∧ lcL ow g t me (ds.drop (i + 1)) s = some (rest, env') ∧ acc ++ rest = l,
      fun H' hN => ⟨ds.length - (i + 1), by omega, rfl, hlt, hN⟩, fun x H' hy => ?_⟩
    have hS2 := wk.yld i H2 _ x H' hlt hS' hy
    have r3 : RS Γ.cfg.K H' s (L2.wipe σ ow) (.rep (.d ds[i]) x :: .rep (.lst acc) (.ref Dl) :: (TI ++ T)) := ⟨L, hE, hS2.perm (.cons _ (by
      show (TI ++ (It.rep (.lst acc) (.ref Dl) :: (T ++ L))).Perm (It.rep (.lst acc) (.ref Dl) :: (TI ++ T ++ L))
      rw [List.append_assoc]
      exact List.perm_middle))⟩
    rw [List.drop_eq_getElem_cons hlt] at h3
    obtain ⟨s3, k, s4, g1, g2, g3⟩ := lcL_cons h3
    -- what may be said of the turn in any block
    intro X' ok'
    refine hg.run X' ok' s ds[i] s3 g1 _ H' _ x r3 _ fun σ3 H3 r4 k3 => ⟨wipe_eq k3 hA, ?_⟩
    intro X2 ok2
    refine ht.run X2 ok2 s3 k s4 g2 σ3 H3 _ r4 _ fun H4 r5 => ?_
    rcases g3 with ⟨rfl, y, s5, l', s6, f1, f2, f3⟩ | ⟨rfl, f1⟩
    · injection f3 with f3 f4
      subst f3 f4
      rw [if_pos rfl]
      intro X3 ok3
      refine he.run X3 ok3 s4 y s5 f1 σ3 H4 _ r5 _ fun v H5 r6 => ?_
      obtain ⟨vs, q1, q2, q3⟩ := append_rs r6
      refine ⟨vs, q1, ?_, wipeE s5 ow, acc ++ [y], l', ?_, fun i hi o => wipeE_none hi, f2, by rw [List.append_assoc]; exact ha⟩
      · rw [q2]
        have z : (acc ++ y :: l').length ≤ sizeLine := by rw [ha]; exact hl
        rw [List.length_append, List.length_cons] at z
        omega
      · rw [← wipe_eq k3 hA]
        exact q3.wipe ow
    · rw [if_neg Bool.false_ne_true]
      refine ⟨wipeE s4 ow, acc, rest, ?_, fun i hi o => wipeE_none hi, f1, ha⟩
      rw [← wipe_eq k3 hA]
      exact r5.wipe ow
  · left
    have e : i = ds.length := by omega
    subst e
    rw [List.drop_length] at h3
    have e1 := Option.some.inj (show some (([] : List O), s) = some (rest, env') from h3)
    injection e1 with e1 e2
    subst e1 e2
    rw [List.append_nil] at ha
    subst ha
    obtain ⟨L, hE, hS⟩ := id r2
    have hS' : St Γ.cfg.K H2 (TI ++ (.rep (.lst acc) (.ref Dl) :: (T ++ L))) := by
      refine hS.perm ?_
      show (It.rep (.lst acc) (.ref Dl) :: (TI ++ T ++ L)).Perm _
      rw [List.append_assoc]
      exact List.perm_middle.symm
    refine ⟨wk.stop H2 _ hS', q _ H2 ?_⟩
    exact RS.unwipe (own := ow) r2 hn

theorem St.freezes {K : PySem.W.Frag} {H : Hp} {L : List It} : ∀ {os : List O} {vs : List V}, os.length = vs.length → St K H (reps os vs ++ L) → St K H (reps (leaf (O.toDs os)) vs ++ L)
  | [], [], _, h => h
  | o :: os, v :: vs, hl, h => by
    have h1 : St K H (.rep o v :: (reps os vs ++ L)) := h
    have h2 : St K H (reps os vs ++ (.rep (.d o.toD) v :: L)) := h1.freeze.perm List.perm_middle.symm
    have h3 := St.freezes (L := .rep (.d o.toD) v :: L) (by simpa using hl) h2
    exact h3.perm List.perm_middle
  | [], _ :: _, hl, _ => by cases hl
  | _ :: _, [], hl, _ => by cases hl
/-- [.. for .. in x.values()], x an own dict -/
def mLcV (i : Nat) (own : List Nat) (g : D → M Unit) (t : M Bool) (me : M O) : M O := fun s => match s[i]? with
  | some (some (.dct ks os)) => match mLc own (fun s => some (O.toDs os, s)) g t me (s.set i none) with
    | some (o, s1) => some (o, s1.set i (some (.dct ks (leaf (O.toDs os)))))
    | none => none
  | _ => none
theorem walk_vals {K : PySem.W.Frag} {a : Addr} {od : Obj} {kvs : List (Key × V)} {ds : List D} (hl : ds.length = (kvs.map (·.2)).length) :
    WalkD K (Itd a od kvs) ds (.raw a (.frz od (.dK kvs)) :: reps (leaf ds) (kvs.map (·.2))) := by
  have hl' : ds.length = kvs.length := by rw [hl, List.length_map]
  refine ⟨fun i H2 L hi hS => ⟨St.raw_at hS, by omega⟩, fun H2 L hS => ⟨St.raw_at hS, by omega⟩, fun i H2 L x H' hi hS hy => ?_⟩
  obtain ⟨y1, k, y2⟩ := hy
  subst y1
  obtain ⟨v, h1, h2⟩ := reps_at (ds := ds) (vs := kvs.map (·.2)) (i := i) hl (List.getElem?_eq_getElem hi)
  rw [List.getElem?_map, y2] at h1
  have e := Option.some.inj h1
  subst e
  obtain ⟨r, p⟩ := mem_perm (List.mem_append_left L (List.mem_cons_of_mem (It.raw a (.frz od (.dK kvs))) h2))
  exact (St.dup (hS.perm p)).perm (.cons _ p.symm)
theorem sd_lcV {x : Str} {p apos cpos : Pos} (i : Nat) (hk : scope.kind = .function) (hg : Sg (Γ.blk scope) tg g A) (ht : Sts (Γ.blk scope) ifs t) (he : Sd (Γ.blk scope) elt me) (hA : ∀ i ∈ A, i ∈ own.map (·.2)) (hb : blkFact Γ scope own = true) (nd : Γ.N.Nodup)
    (hN : Γ.N[i]? = some x := by rfl) (hv : Γ.vis x = true := by kernel_rfl)
    (hbase : ∀ env : PySem.Env, attributeBase (.Name x p) "values" env (eval (.Name x p) env) = eval (.Name x p) env := by intro _; rfl) (hline : (apos.endLine == cpos.line) = true := by rfl)
    (hd : (x == ("__debug__" : Str)) = false := by kernel_rfl) (hcd : (x == ("__classdict__" : Str)) = false := by kernel_rfl)
    (hs : ∀ (env : PySem.Env) y, foldedSetIterable (.Call (.Attribute (.Name x p) "values" apos) [] [] cpos) env y = pure y := by intro _ _; rfl) :
    Sd Γ (.ListComp elt [⟨tg, .Call (.Attribute (.Name x p) "values" apos) [] [] cpos, ifs, 0⟩] scope pos) (mLcV i (own.map (·.2)) g t me) := ⟨fun X ok env o env' hm σ H T hr Q q => by
  unfold mLcV at hm
  split at hm
  · rename_i ks os q0
    split at hm
    · rename_i o1 s1 q1
      have e1 := Option.some.inj hm
      injection e1 with e1 e2
      subst e1 e2
      refine ⟨_, pe_lock (pe_lc (own := own) ok.calm (by rw [ok.hN]; exact nd) (pi_best X tg _) (blk_ok ok hb) (fun s H C cl fp => pg_all (ok.blk hk)) (fun s H C cl fp => pts_all (ok.blk hk)) (fun s H C cl fp => pe_all (ok.blk hk)) (hs X.env)), ?_⟩
      obtain ⟨v, h1, L, hE, hS⟩ := hr.take q0
      obtain ⟨a, kvs, e1, ek, hl, s2⟩ := St.open_dct (L := T ++ L) hS
      subst e1
      have s3 : St Γ.cfg.K H (reps os (kvs.map (·.2)) ++ (.raw a (.dK kvs) :: (T ++ L))) := s2.perm List.perm_middle.symm
      have s4 : St Γ.cfg.K H (.raw a (.dK kvs) :: (reps (leaf (O.toDs os)) (kvs.map (·.2)) ++ (T ++ L))) := (St.freezes hl s3).perm List.perm_middle
      have hl2 : (O.toDs os).length = (kvs.map (·.2)).length := by rw [O.toDs_eq, List.length_map]; exact hl
      refine ⟨a, .dK kvs, s4.raw_at, trivial, fun od => ?_⟩
      have s5 := s4.write (u' := .frz od (.dK kvs))
      refine lc_readW (walk_vals (od := od) hl2) hk hg ht he hA ok q1 (T := T) ⟨L, hE, by
        show St Γ.cfg.K _ (.raw a (.frz od (.dK kvs)) :: ((reps (leaf (O.toDs os)) (kvs.map (·.2)) ++ T) ++ L))
        rw [List.append_assoc]; exact s5⟩ (fun R hR => ?_) fun v' H' r => ?_
      · exact ⟨_, pi_values (pe_var (i := i) (by rw [ok.hN]; exact hN) (ok.vis hv) hd hcd) (hbase X.env) hline, .ref a, h1, a, od, kvs, rfl, upd_same, hR⟩
      · obtain ⟨L', hE', hS'⟩ := r
        have t1 : St Γ.cfg.K H' (.raw a (.frz od (.dK kvs)) :: (reps (leaf (O.toDs os)) (kvs.map (·.2)) ++ (.rep o1 v' :: (T ++ L')))) := by
          refine hS'.perm ?_
          show (It.rep o1 v' :: (.raw a (.frz od (.dK kvs)) :: (reps (leaf (O.toDs os)) (kvs.map (·.2)) ++ T) ++ L')).Perm _
          rw [List.cons_append, List.append_assoc]
          exact (List.Perm.swap _ _ _).trans (.cons _ List.perm_middle.symm)
        refine ⟨t1.raw_at, ?_⟩
        have t2 := St.close_dct (by rw [List.length_map]; exact hl2) (t1.write (u' := .dK kvs))
        rw [← ek] at t2
        exact q v' _ (RS.putSame (T := .rep o1 v' :: T) ⟨L', hE', t2⟩ h1)
    · cases hm
  · cases hm⟩
end
end BM

set_option Elab.async false
set_option linter.all false
set_option maxRecDepth 100000
set_option maxHeartbeats 4000000
/-! BM, part 25: {}, x.setdefault(k, []).append(y). -/
namespace BM
open PySem PySem.Spec PyProof.Rows L2
def mDct0 : M O := mpure (.dct [] [])
def isKeyD : D → Bool
  | .int _ => true
  | .str _ => true
  | _ => false
/-- x.setdefault(k, []).append(y), x an own dict, y a name of plain data -/
def mSetd (i : Nat) (mk : M O) (j : Nat) : M O := fun s => match s[i]? with
 | some (some (.dct _ _)) => match mk s with
  | some (.d k, s1) => match s1[i]? with
    | some (some (.dct ks os)) => match s1[j]? with
      | some (some (.d y)) => if isKeyD k = true ∧ os.length < sizeLine then match idxKey k ks with
          | some q => match os[q]? with
            | some (.lst l) => if l.length < sizeLine then some (.d .non, s1.set i (some (.dct ks (os.set q (.lst (l ++ [.d y])))))) else none
            | _ => none
          | none => some (.d .non, s1.set i (some (.dct (ks ++ [k]) (os ++ [.lst [.d y]]))))
        else none
      | _ => none
    | _ => none
  | _ => none
 | _ => none
theorem reps_snoc (o : O) (y : V) : ∀ (os : List O) (vs : List V), os.length = vs.length → reps (os ++ [o]) (vs ++ [y]) = reps os vs ++ [.rep o y]
  | [], [], _ => rfl
  | a :: os, b :: vs, h => by
    show It.rep a b :: reps (os ++ [o]) (vs ++ [y]) = .rep a b :: (reps os vs ++ [.rep o y])
    rw [reps_snoc o y os vs (by simpa using h)]
  | [], _ :: _, h => by cases h
  | _ :: _, [], h => by cases h
theorem keyEq_key (a k : Key) : keyEq (keyD a) (keyD k) = decide (a = k) := by
  cases a with
  | inl a =>
    cases k with
    | inl k =>
      show (a == k) = _
      rw [Bool.eq_iff_iff]; simp
    | inr k => exact (decide_eq_false (fun z => nomatch z)).symm
  | inr a =>
    cases k with
    | inl k => exact (decide_eq_false (fun z => nomatch z)).symm
    | inr k =>
      show (a == k) = _
      rw [Bool.eq_iff_iff]; simp
theorem idx_val (k : Key) : ∀ kvs : List (Key × V), (∀ q, idxKey (keyD k) (kvs.map fun p => keyD p.1) = some q → valV kvs k = (kvs.map (·.2))[q]?) ∧ (idxKey (keyD k) (kvs.map fun p => keyD p.1) = none → valV kvs k = none)
  | [] => ⟨fun q h => (nomatch h), fun _ => rfl⟩
  | p :: r => by
    obtain ⟨ih1, ih2⟩ := idx_val k r
    have e : idxKey (keyD k) ((p :: r).map fun p => keyD p.1) = if keyEq (keyD p.1) (keyD k) = true then some 0 else match idxKey (keyD k) (r.map fun p => keyD p.1) with
      | some j => some (j + 1)
      | none => none := rfl
    rw [e, keyEq_key]
    by_cases h : p.1 = k
    · rw [if_pos (decide_eq_true h)]
      refine ⟨fun q hq => ?_, fun hq => by cases hq⟩
      have z := Option.some.inj hq
      subst z
      exact valV_pos h
    · rw [if_neg (by simpa using h), valV_neg h]
      cases z : idxKey (keyD k) (r.map fun p => keyD p.1) with
      | none => exact ⟨fun q hq => by simp at hq, fun _ => ih2 z⟩
      | some j =>
        refine ⟨fun q hq => ?_, fun hq => by simp at hq⟩
        have z2 : j + 1 = q := Option.some.inj hq
        subst z2
        exact ih1 j z
section
variable {Γ : Gm} {p p2 pos apos cpos apos2 : Pos}
theorem sd_dct0 : Sd Γ (.Dict [] [] pos) mDct0 := ⟨fun X ok env o env' hm σ H T hr Q q => by
  have e1 := Option.some.inj (show some (O.dct [] [], env) = some (o, env') from hm)
  injection e1 with e1 e2
  subst e1 e2
  refine ⟨_, pe_dnewK, fun a ha => q _ _ ?_⟩
  exact hr.lift fun L h => St.close_dct (os := []) (kvs := []) rfl (St.alloc ha h)⟩
theorem RS.copy {K : PySem.W.Frag} {H : Hp} {env : Env} {σ : L2.St} {T : List It} {j : Nat} {y : D} (r : RS K H env σ T) (h : env[j]? = some (some (.d y))) : ∃ u, σ[j]? = some (some u) ∧ RS K H env σ (.rep (.d y) u :: T) := by
  obtain ⟨u, hu, r2⟩ := r.take h
  have r3 : RS K H (env.set j none) σ (.rep (.d y) u :: .rep (.d y) u :: T) := r2.lift fun L q => St.dup q
  have r4 := r3.putSame hu
  rw [List.set_set] at r4
  have e : env.set j (some (.d y)) = env := by
    refine List.ext_getElem? fun n => ?_
    rw [List.getElem?_set]
    by_cases z : j = n
    · subst z
      have hl := (List.getElem?_eq_some_iff.mp h).1
      rw [if_pos rfl, if_pos hl, h]
    · rw [if_neg z]
  rw [e] at r4
  exact ⟨u, hu, r4⟩
theorem key_of_rep {K : PySem.W.Frag} {H : Hp} {k : D} {w : V} {L : List It} (hk : isKeyD k = true) (h : St K H (.rep (.d k) w :: L)) : ∃ kk : Key, k = keyD kk ∧ w = kV kk := by
  cases k with
  | int n => exact ⟨.inl n, rfl, St.intv h⟩
  | str n => exact ⟨.inr n, rfl, St.strv h⟩
  | _ => cases hk
theorem sd_setd {x y : Str} {e : Expr} {mk : M O} (i j : Nat) (he : Sd Γ e mk) (hN : Γ.N[i]? = some x := by rfl) (hv : Γ.vis x = true := by kernel_rfl) (hNj : Γ.N[j]? = some y := by rfl) (hvj : Γ.vis y = true := by kernel_rfl)
    (hm2 : ∀ X : Cx, M2 X (.Name x p) "setdefault" apos e (.List [] p2) cpos := by intro X; exact ⟨rfl, rfl, rfl, rfl⟩)
    (hbase : ∀ env : PySem.Env, attributeBase (.Call (.Attribute (.Name x p) "setdefault" apos) [e, .List [] p2] [] cpos) "append" env (eval (.Call (.Attribute (.Name x p) "setdefault" apos) [e, .List [] p2] [] cpos) env) = eval (.Call (.Attribute (.Name x p) "setdefault" apos) [e, .List [] p2] [] cpos) env := by intro _; rfl)
    (hfew : ∀ env : PySem.Env, ((backTo pos (starEach [.Name y p3] env)).all (fun x => !x.1) && (backToKw pos (keywordEach [] env)).all (fun x => x.1.isSome) && decide ([Expr.Name y p3].length + ([] : List Keyword).length + (if ([] : List Keyword).isEmpty then 0 else 1) < 30)) = true := by intro _; rfl)
    (hline : (apos2.endLine == pos.line) = true := by rfl)
    (hd : (x == ("__debug__" : Str)) = false := by kernel_rfl) (hcd : (x == ("__classdict__" : Str)) = false := by kernel_rfl) (hdj : (y == ("__debug__" : Str)) = false := by kernel_rfl) (hcdj : (y == ("__classdict__" : Str)) = false := by kernel_rfl) :
    Sd Γ (.Call (.Attribute (.Call (.Attribute (.Name x p) "setdefault" apos) [e, .List [] p2] [] cpos) "append" apos2) [.Name y p3] [] pos) (mSetd i mk j) := ⟨fun X ok env o env' hm σ H T hr Q q => by
  unfold mSetd at hm
  split at hm
  case h_2 => cases hm
  rename_i ks0 os0 q0
  split at hm
  · rename_i k s1 q1
    split at hm
    · rename_i ks os q2
      split at hm
      · rename_i yd q3
        split at hm
        · rename_i hz
          obtain ⟨hkey, hlen⟩ := hz
          obtain ⟨a0, kvs0, h0, h00⟩ : ∃ a0 kvs0, σ[i]? = some (some (.ref a0)) ∧ H a0 = some (.dK kvs0) := by
            obtain ⟨v, h1, L, hE, hS⟩ := hr.take q0
            obtain ⟨a, kvs, e1, _, _, s2⟩ := St.open_dct (L := T ++ L) hS
            subst e1
            exact ⟨a, kvs, h1, s2.raw_at⟩
          refine ⟨_, pe_bm (T := "list") PySem.F.plainAttrs_list PySem.F.slot_list_append PySem.F.type_list_append (mt_append (X := X))
            (pe_dsetd (pe_var (i := i) (by rw [ok.hN]; exact hN) (ok.vis hv) hd hcd) (pe_best X e) (pe_lst pa_nil) (hm2 X))
            (pa_cons (pe_var (i := j) (by rw [ok.hN]; exact hNj) (ok.vis hvj) hdj hcdj) pa_nil) (hbase X.env) (hfew X.env) hline rfl rfl, ?_⟩
          refine ⟨.ref a0, h0, a0, rfl, .inl ⟨kvs0, .inl h00⟩, ?_⟩
          refine he.run X ok env (.d k) s1 q1 σ H T hr _ fun w H1 r1 => ?_
          refine ⟨Nat.zero_le _, fun b hb => ?_⟩
          obtain ⟨kk, ek, ew⟩ : ∃ kk : Key, k = keyD kk ∧ w = kV kk := by
            obtain ⟨L, hE, hS⟩ := r1
            exact key_of_rep hkey hS
          subst ek ew
          obtain ⟨u, hu, r2⟩ := (r1.drop).copy q3
          obtain ⟨v, hv1, L, hE, hS⟩ := r2.take q2
          rw [h0] at hv1
          have e1 := Option.some.inj (Option.some.inj hv1)
          subst e1
          obtain ⟨a, kvs, e1, eks, hl, s2⟩ := St.open_dct (L := (.rep (.d yd) u :: T) ++ L) hS
          cases e1
          have s3 := St.alloc (u := .lst []) hb s2
          have hH3 : upd H1 b (.lst []) a0 = some (.dK kvs) := (s3.drop).raw_at
          have hkl : kvs.length < sizeLine := by rw [List.length_map] at hl; omega
          obtain ⟨iv1, iv2⟩ := idx_val kk kvs
          rw [← eks] at iv1 iv2
          refine ⟨kvs, kk, hH3, rfl, hkl, fun v hv => ?_, fun hv => ?_⟩
          · split at hm
            · rename_i qq q4
              have iv := iv1 qq q4
              rw [hv] at iv
              split at hm
              · rename_i l q5
                split at hm
                · rename_i hll
                  have e1 := Option.some.inj hm
                  injection e1 with e1 e2
                  subst e1 e2
                  obtain ⟨v1, g1, g2, g3⟩ := reps_split hl q5
                  rw [← iv] at g1
                  have e1 := Option.some.inj g1
                  subst e1
                  -- the kid comes to the front
                  have s4 : St Γ.cfg.K (upd H1 b (.lst [])) (.rep (.lst l) v :: (.raw a0 (.dK kvs) :: (reps (os.eraseIdx qq) ((kvs.map (·.2)).eraseIdx qq) ++ (.rep (.d yd) u :: (T ++ L))))) := by
                    refine (s3.drop).perm ?_
                    refine (List.Perm.cons _ (g2.append_right _)).trans ?_
                    exact .swap _ _ _
                  obtain ⟨c, vs, ec, lc, s5⟩ := St.open_lst s4
                  subst ec
                  refine ⟨ty_list s5.raw_at, u, hu, c, vs, u, rfl, rfl, s5.raw_at, by omega, q .non _ ?_⟩
                  have s6 := s5.write (u' := .lst (vs ++ [u]))
                  have s7 := St.close_lst (os := l ++ [.d yd]) (vs := vs ++ [u]) (a := c) (L := .raw a0 (.dK kvs) :: (reps (os.eraseIdx qq) ((kvs.map (·.2)).eraseIdx qq) ++ (T ++ L))) (by simp [lc]) (s6.perm (.cons _ (by
                    rw [reps_snoc _ _ _ _ lc, List.append_assoc]
                    refine List.Perm.append_left _ ?_
                    show (It.raw a0 (.dK kvs) :: (reps (os.eraseIdx qq) ((kvs.map (·.2)).eraseIdx qq) ++ (.rep (.d yd) u :: (T ++ L)))).Perm _
                    rw [← List.cons_append]
                    exact List.perm_middle)))
                  have s8 := St.close_dct (a := a0) (kvs := kvs) (os := os.set qq (.lst (l ++ [.d yd]))) (L := T ++ L) (by rw [List.length_set]; exact hl) (s7.perm (by
                    refine (List.Perm.swap _ _ _).trans (.cons _ ?_)
                    exact ((g3 (.lst (l ++ [.d yd]))).symm.append_right (T ++ L))))
                  rw [← eks] at s8
                  have s9 : RS Γ.cfg.K _ _ σ T := RS.putSame (T := T) ⟨L, hE, s8⟩ h0
                  rw [List.set_set] at s9
                  exact s9.lift fun L h => h.flat rfl
                · cases hm
              · cases hm
            · rename_i q4
              rw [iv2 q4] at hv; cases hv
          · split at hm
            · rename_i qq q4
              have iv := iv1 qq q4
              rw [hv] at iv
              split at hm
              · rename_i l q5
                have z := (List.getElem?_eq_some_iff.mp q5).1
                rw [hl] at z
                rw [List.getElem?_eq_getElem z] at iv
                cases iv
              · cases hm
            · have e1 := Option.some.inj hm
              injection e1 with e1 e2
              subst e1 e2
              rw [putK_new _ hv]
              have s4 := (s3.perm (.swap _ _ _)).write (u' := .dK (kvs ++ [(kk, .ref b)]))
              have s5 := s4.perm (.swap _ _ _)
              refine ⟨ty_list s5.raw_at, u, hu, b, [], u, rfl, rfl, s5.raw_at, by decide, q .non _ ?_⟩
              have s6 := s5.write (u' := .lst ([] ++ [u]))
              have s7 := St.close_lst (os := [.d yd]) (vs := [u]) (a := b) (L := .raw a0 (.dK (kvs ++ [(kk, .ref b)])) :: (reps os (kvs.map (·.2)) ++ (T ++ L))) rfl (s6.perm (.cons _ (by
                show (It.raw a0 (.dK (kvs ++ [(kk, .ref b)])) :: (reps os (kvs.map (·.2)) ++ (.rep (.d yd) u :: (T ++ L)))).Perm (.rep (.d yd) u :: _)
                rw [← List.cons_append]
                exact List.perm_middle)))
              have s8 := St.close_dct (a := a0) (kvs := kvs ++ [(kk, .ref b)]) (os := os ++ [.lst [.d yd]]) (L := T ++ L) (by simp at hl ⊢; omega) (s7.perm (by
                refine (List.Perm.swap _ _ _).trans (.cons _ ?_)
                rw [List.map_append, show ([(kk, V.ref b)] : List (Key × V)).map (·.2) = [.ref b] from rfl, reps_snoc _ _ _ _ hl, List.append_assoc]
                exact List.perm_middle.symm))
              have ek : (kvs ++ [(kk, V.ref b)]).map (fun p => keyD p.1) = ks ++ [keyD kk] := by rw [List.map_append, ← eks]; rfl
              rw [ek] at s8
              have s9 : RS Γ.cfg.K _ _ σ T := RS.putSame (T := T) ⟨L, hE, s8⟩ h0
              rw [List.set_set] at s9
              exact s9.lift fun L h => h.flat rfl
        · cases hm
      · cases hm
    · cases hm
  · cases hm⟩
end
end BM

set_option Elab.async false
set_option linter.all false
set_option maxRecDepth 100000
set_option maxHeartbeats 4000000
/-! BM, part 26: a < b < c. -/
namespace BM
open PySem PySem.Spec PyProof.Rows L2
def tChn (F F' : D → D → Option Bool) (ma mb mc : M O) : M Bool := fun s => match ma s with
  | some (oa, s1) => match mb s1 with
    | some (ob, s2) => match F oa.toD ob.toD with
      | some true => match mc s2 with
        | some (oc, s3) => match F' ob.toD oc.toD with
          | some k => some (k, s3)
          | none => none
        | none => none
      | some false => some (false, s2)
      | none => none
    | none => none
  | none => none
section
variable {Γ : Gm} {a b c : Expr} {ma mb mc : M O} {pos : Pos} {F F' : D → D → Option Bool}
theorem sdT_chain {op op' : CmpOp} (ha : Sd Γ a ma) (hb : Sd Γ b mb) (hc : Sd Γ c mc) (ho : OkB Γ (compareOp op) (bO (w2b F))) (ho' : OkB Γ (compareOp op') (bO (w2b F')))
    (hm : lastMarks [op, op'] [b, c] = false := by with_unfolding_all rfl) : SdT Γ (.Compare a [op, op'] [b, c] pos) (tChn F F' ma mb mc) := ⟨fun X ok env k env' hm' σ H T hr Q q => by
  unfold tChn at hm'
  split at hm'
  case h_2 => cases hm'
  rename_i oa s1 q1
  split at hm'
  case h_2 => cases hm'
  rename_i ob s2 q2
  refine ⟨tTest (tChain (WO X (compareOp op)) (WO X (compareOp op')) (WE X a) (WE X b) (WE X c)), pt_chain (op_best X _) (op_best X _) (pe_best X a) (pe_best X b) (pe_best X c) hm, ?_⟩
  refine ha.run X ok env oa s1 q1 σ H T hr _ fun va H1 r1 => ?_
  refine hb.run X ok s1 ob s2 q2 σ H1 _ r1.freeze _ fun vb H2 r2 => ?_
  obtain ⟨L, hE, hS⟩ := r2.freeze
  cases q3 : F oa.toD ob.toD with
  | none => simp only [q3] at hm'; cases hm'
  | some k1 =>
    refine ho X ok H2 _ va vb oa.toD ob.toD (.d (.bl k1)) hS ⟨.d oa.toD, List.mem_cons_of_mem _ List.mem_cons_self, rfl⟩ ⟨.d ob.toD, List.mem_cons_self, rfl⟩ (bO_some q3) _ fun v H3 h3 => ?_
    refine ⟨k1, h3.blv, ?_⟩
    have r3 : RS Γ.cfg.K H3 s2 σ (.rep (.d ob.toD) vb :: .rep (.d oa.toD) va :: T) := ⟨L, hE, h3.drop⟩
    cases k1 with
    | false =>
      simp only [q3] at hm'
      have e1 := Option.some.inj hm'
      injection e1 with e1 e2
      subst e1 e2
      rw [if_neg Bool.false_ne_true]
      exact ⟨false, rfl, q H3 r3.drop.drop⟩
    | true =>
      simp only [q3] at hm'
      rw [if_pos rfl]
      split at hm'
      case h_2 => cases hm'
      rename_i oc s3 q4
      cases q5 : F' ob.toD oc.toD with
      | none => simp only [q5] at hm'; cases hm'
      | some k2 =>
        simp only [q5] at hm'
        have e1 := Option.some.inj hm'
        injection e1 with e1 e2
        subst e1 e2
        refine hc.run X ok s2 oc s3 q4 σ H3 _ r3 _ fun vc H4 r4 => ?_
        obtain ⟨L4, hE4, hS4⟩ := r4.freeze
        refine ho' X ok H4 _ vb vc ob.toD oc.toD (.d (.bl k2)) hS4 ⟨.d ob.toD, List.mem_cons_of_mem _ List.mem_cons_self, rfl⟩ ⟨.d oc.toD, List.mem_cons_self, rfl⟩ (bO_some q5) _ fun v' H5 h5 => ?_
        exact ⟨k2, h5.blv, q H5 (RS.drop (RS.drop (RS.drop ⟨L4, hE4, h5.drop⟩)))⟩⟩
end
end BM

set_option Elab.async false
set_option linter.all false
set_option maxRecDepth 100000
set_option maxHeartbeats 4000000
/-! BM, part 27: loops that may break, by what stands behind i turns. -/
namespace BM
open PySem PySem.Spec PyProof.Rows L2
/-- each turn ends in P (one more), or breaks in B -/
theorem x_forB {g : D → M Unit} {body : M Fl} {P : Nat → Env → Prop} {B : Env → Prop} : ∀ {ds : List D} {i : Nat} {s : Env}, P i s →
    (∀ j d s, ds[j]? = some d → P (i + j) s → ∃ s1 s2, g d s = some ((), s1) ∧ ((body s1 = some (.nx, s2) ∧ P (i + j + 1) s2) ∨ (body s1 = some (.bk, s2) ∧ B s2))) → ∃ s', forL g body ds s = some (.nx, s') ∧ (P (i + ds.length) s' ∨ B s')
  | [], i, s, p, _ => ⟨s, rfl, .inl p⟩
  | d :: ds, i, s, p, H => by
    obtain ⟨s1, s2, h1, h2⟩ := H 0 d s rfl p
    rcases h2 with ⟨h2, p2⟩ | ⟨h2, p2⟩
    · obtain ⟨s', h3, p3⟩ := x_forB (s := s2) (ds := ds) (i := i + 1) (B := B) p2 fun j e s he p => by
        have z := H (j + 1) e s (by simpa using he) (by rw [show i + (j + 1) = i + 1 + j by omega]; exact p)
        obtain ⟨a, b, c, d⟩ := z
        exact ⟨a, b, c, by rw [show i + 1 + j + 1 = i + (j + 1) + 1 by omega]; exact d⟩
      refine ⟨s', ?_, by rw [List.length_cons, show i + (ds.length + 1) = i + 1 + ds.length by omega]; exact p3⟩
      rw [forL]
      exact x_bind h1 (x_bind h2 h3)
    · refine ⟨s2, ?_, .inr p2⟩
      rw [forL]
      exact x_bind h1 (x_bind h2 rfl)
theorem x_sForB {src : M (List D)} {g : D → M Unit} {body : M Fl} {P : Nat → Env → Prop} {B : Env → Prop} {s s1 : Env} {ds : List D} (hs : src s = some (ds, s1)) (p : P 0 s1)
    (H : ∀ j d s, ds[j]? = some d → P j s → ∃ s1 s2, g d s = some ((), s1) ∧ ((body s1 = some (.nx, s2) ∧ P (j + 1) s2) ∨ (body s1 = some (.bk, s2) ∧ B s2))) : ∃ s', sFor src g body s = some (.nx, s') ∧ (P ds.length s' ∨ B s') := by
  obtain ⟨s', h1, h2⟩ := x_forB (i := 0) p fun j d s he p => by
    rw [Nat.zero_add] at p
    obtain ⟨a, b, c, d⟩ := H j d s he p
    exact ⟨a, b, c, by rw [Nat.zero_add]; exact d⟩
  exact ⟨s', x_bind hs h1, by rw [Nat.zero_add] at h2; exact h2⟩
theorem x_seqB {x y : M Fl} {s s1 : Env} (h : x s = some (.bk, s1)) : sSeq x y s = some (.bk, s1) := x_bind h rfl
end BM

set_option Elab.async false
set_option linter.all false
set_option maxRecDepth 100000
set_option maxHeartbeats 4000000
/-! BM, part 28: own dicts with text keys: d["k"], d["k"] = e, d["k"] != [], d["k"].pop(), d["k"].append(e), {"k": e, ..}. -/
namespace BM
open PySem PySem.Spec PyProof.Rows L2

/-! ### words -/
def onceK (k : D) : List D → Bool
  | [] => true
  | x :: r => if keyEq x k = true then r.all (fun y => !keyEq y k) else onceK k r
def mGetD (i : Nat) (k : Str) : M O := fun s => match s[i]? with
  | some (some (.dct ks os)) => (match idxKey (.str k) ks with
    | some j => (match os[j]? with
      | some (.d x) => some (.d x, s)
      | _ => none)
    | none => none)
  | _ => none
def sSetD (i : Nat) (k : Str) (me : M O) : M Fl := fun s => match me s with
  | some (y, s1) => (match s1[i]? with
    | some (some (.dct ks os)) => (match idxKey (.str k) ks with
      | some j => if onceK (.str k) ks = true ∧ os.length < sizeLine then some (.nx, s1.set i (some (.dct ks (os.set j y)))) else none
      | none => none)
    | _ => none)
  | none => none
/-- the part at k, itself a list -/
def kidD (k : Str) : Option (Option O) → Option (Nat × List D × List O × List O)
  | some (some (.dct ks os)) => (match idxKey (.str k) ks with
    | some j => (match os[j]? with
      | some (.lst cs) => some (j, ks, os, cs)
      | _ => none)
    | none => none)
  | _ => none
def tKidNeD (i : Nat) (k : Str) : M Bool := fun s => match kidD k s[i]? with
  | some (_, _, _, cs) => (match O.leafs cs with
    | some ds => if ds.all isInt = true then some (!cs.isEmpty, s) else none
    | none => none)
  | none => none
def mKidPopD (i : Nat) (k : Str) : M O := fun s => match kidD k s[i]? with
  | some (j, ks, os, cs) => (match cs.getLast? with
    | some y => some (y, s.set i (some (.dct ks (os.set j (.lst cs.dropLast)))))
    | none => none)
  | none => none
def mKidAppD (i : Nat) (k : Str) (me : M O) : M O := fun s => match kidD k s[i]? with
  | some (j, ks, os, cs) => (match me (s.set i none) with
    | some (y, s') => if cs.length < sizeLine ∧ i < s'.length then some (.d .non, s'.set i (some (.dct ks (os.set j (.lst (cs ++ [y])))))) else none
    | none => none)
  | none => none
def mDctS (ks : List Str) (ms : List (M O)) : M O := fun s => match mArgs ms s with
  | some (os, s') => some (.dct (ks.map D.str) os, s')
  | none => none

/-! ### lemmas -/
section
variable {K : PySem.W.Frag} {H : Hp} {L : List It}
theorem once_no (k : Key) : ∀ r : List (Key × V), ((r.map fun p => keyD p.1).all fun y => !keyEq y (keyD k)) = true → ∀ p ∈ r, ¬ p.1 = k
  | [], _, p, hp => by cases hp
  | q :: r, h, p, hp => by
    rw [List.map_cons, List.all_cons, Bool.and_eq_true] at h
    rcases List.mem_cons.mp hp with rfl | hp
    · have h1 := h.1
      rw [keyEq_key] at h1
      intro e
      rw [decide_eq_true e] at h1; cases h1
    · exact once_no k r h.2 p hp
theorem map_no (k : Key) (v : V) {r : List (Key × V)} (h : ∀ p ∈ r, ¬ p.1 = k) : r.map (fun kv => if kv.1 = k then (kv.1, v) else kv) = r := by
  refine (List.map_congr_left fun p hp => ?_).trans (List.map_id r)
  rw [if_neg (h p hp)]; rfl
theorem put_at (k : Key) (v : V) : ∀ (kvs : List (Key × V)) (j : Nat), idxKey (keyD k) (kvs.map fun p => keyD p.1) = some j → onceK (keyD k) (kvs.map fun p => keyD p.1) = true →
    (kvs.any fun kv => decide (kv.1 = k)) = true ∧ (kvs.map fun kv => if kv.1 = k then (kv.1, v) else kv).map (fun p => keyD p.1) = kvs.map (fun p => keyD p.1) ∧ (kvs.map fun kv => if kv.1 = k then (kv.1, v) else kv).map (·.2) = (kvs.map (·.2)).set j v
  | [], j, h, _ => by cases h
  | p :: r, j, h, h2 => by
    rw [List.map_cons, idxKey] at h
    rw [List.map_cons, onceK] at h2
    rw [keyEq_key] at h h2
    by_cases e : p.1 = k
    · rw [if_pos (decide_eq_true e)] at h h2
      have ej := Option.some.inj h
      subst ej
      rw [List.any_cons, decide_eq_true e]
      refine ⟨rfl, ?_, ?_⟩
      · rw [List.map_cons, if_pos e, map_no k v (once_no k r h2), List.map_cons, List.map_cons]
      · rw [List.map_cons, if_pos e, map_no k v (once_no k r h2), List.map_cons, List.map_cons, List.set_cons_zero]
    · have e0 : ¬ decide (p.1 = k) = true := by simp [e]
      rw [if_neg e0] at h h2
      cases q : idxKey (keyD k) (r.map fun p => keyD p.1) with
      | none => rw [q] at h; cases h
      | some j' =>
        rw [q] at h
        have ej := Option.some.inj h
        subst ej
        obtain ⟨i1, i2, i3⟩ := put_at k v r j' q h2
        have e1 : ¬ p.1 = k := e
        refine ⟨by rw [List.any_cons, i1, Bool.or_true], ?_, ?_⟩
        · rw [List.map_cons, if_neg e1, List.map_cons, List.map_cons, i2]
        · rw [List.map_cons, if_neg e1, List.map_cons, List.map_cons, i3, List.set_cons_succ]
theorem putK_at {k : Key} {v : V} {kvs : List (Key × V)} {j : Nat} (h : idxKey (keyD k) (kvs.map fun p => keyD p.1) = some j) (h2 : onceK (keyD k) (kvs.map fun p => keyD p.1) = true) :
    (putK kvs k v).map (fun p => keyD p.1) = kvs.map (fun p => keyD p.1) ∧ (putK kvs k v).map (·.2) = (kvs.map (·.2)).set j v := by
  obtain ⟨i1, i2, i3⟩ := put_at k v kvs j h h2
  unfold putK
  rw [if_pos i1]
  exact ⟨i2, i3⟩
/-- one part of an own dict taken out, to be put back changed -/
theorem St.kidD {ks : List D} {os : List O} {v : V} {j : Nat} {c : O} (h : St K H (.rep (.dct ks os) v :: L)) (hj : os[j]? = some c) :
    ∃ a kvs v1 C, v = .ref a ∧ ks = kvs.map (fun p => keyD p.1) ∧ H a = some (.dK kvs) ∧ (kvs.map (·.2))[j]? = some v1 ∧ St K H (.rep c v1 :: (C ++ L)) ∧ ∀ H' c' R, St K H' (.rep c' v1 :: (C ++ R)) → St K H' (.rep (.dct ks (os.set j c')) v :: R) := by
  obtain ⟨a, kvs, e1, ek, hl, h2⟩ := h.open_dct
  subst e1
  obtain ⟨v1, g1, g2, g3⟩ := reps_split hl hj
  refine ⟨a, kvs, v1, .raw a (.dK kvs) :: reps (os.eraseIdx j) ((kvs.map (·.2)).eraseIdx j), rfl, ek, h2.raw_at, g1, ?_, fun H' c' R h' => ?_⟩
  · refine h2.perm ?_
    refine ((g2.append_right L).cons _).trans ?_
    exact .swap _ _ _
  · rw [ek]
    refine St.close_dct (by rw [List.length_set]; exact hl) (h'.perm ?_)
    refine .trans ?_ (((g3 c').symm.append_right R).cons _)
    exact .swap _ _ _
theorem slot_dct {env : Env} {σ : L2.St} {T : List It} {i : Nat} {ks : List D} {os : List O} (r : RS K H env σ T) (h : env[i]? = some (some (.dct ks os))) : ∃ a kvs, σ[i]? = some (some (.ref a)) ∧ H a = some (.dK kvs) ∧ ks = kvs.map (fun p => keyD p.1) := by
  obtain ⟨v, h1, L, hE, hS⟩ := r.take h
  obtain ⟨a, kvs, e1, ek, hl, h2⟩ := St.open_dct hS
  subst e1
  exact ⟨a, kvs, h1, h2.raw_at, ek⟩
theorem kidD_some {k : Str} {y : Option (Option O)} {r : Nat × List D × List O × List O} (h : kidD k y = some r) : y = some (some (.dct r.2.1 r.2.2.1)) ∧ idxKey (.str k) r.2.1 = some r.1 ∧ r.2.2.1[r.1]? = some (.lst r.2.2.2) := by
  unfold kidD at h
  split at h
  · rename_i ks os
    split at h
    · rename_i j q1
      split at h
      · rename_i cs q2
        have e := Option.some.inj h
        subst e
        exact ⟨rfl, q1, q2⟩
      · cases h
    · cases h
  · cases h
theorem setD_rs {env : Env} {σ : L2.St} {T : List It} {ks : List D} {os : List O} {a : Addr} {k : Str} {j : Nat} {y : O} {w : V} (hj : idxKey (.str k) ks = some j) (ho : onceK (.str k) ks = true) (h : RS K H env σ (.rep (.dct ks os) (.ref a) :: .rep y w :: T)) :
    ∃ kvs, H a = some (.dK kvs) ∧ kvs.length = os.length ∧ RS K (upd H a (.dK (putK kvs (.inr k) w))) env σ (.rep (.dct ks (os.set j y)) (.ref a) :: T) := by
  obtain ⟨L, hE, hS⟩ := h
  obtain ⟨a', kvs, e1, ek, hl, h2⟩ := St.open_dct (L := .rep y w :: (T ++ L)) hS
  cases e1
  refine ⟨kvs, h2.raw_at, by rw [hl, List.length_map], L, hE, ?_⟩
  subst ek
  obtain ⟨p1, p2⟩ := putK_at (k := .inr k) (v := w) hj ho
  have jl : j < os.length := by
    have key : ∀ (l : List D) (q : Nat), idxKey (.str k) l = some q → q < l.length := by
      intro l
      induction l with
      | nil => intro q z; cases z
      | cons d l ih =>
        intro q z
        rw [idxKey] at z
        by_cases e : keyEq d (.str k) = true
        · rw [if_pos e] at z; cases z; simp
        · rw [if_neg e] at z
          cases q' : idxKey (.str k) l with
          | none => rw [q'] at z; cases z
          | some j' => rw [q'] at z; cases z; have := ih _ q'; simp; omega
    have := key _ _ hj
    rw [List.length_map] at this hl
    omega
  have h3 := h2.write (u' := .dK (putK kvs (.inr k) w))
  show St K _ (.rep (.dct _ (os.set j y)) (.ref a) :: (T ++ L))
  rw [← p1]
  refine St.close_dct (os := os.set j y) (kvs := putK kvs (.inr k) w) (by rw [p2, List.length_set, List.length_set, hl]) ?_
  rw [p2]
  obtain ⟨R, r1, r2⟩ := reps_set (o := y) (v := w) hl jl
  refine (fun z => St.perm (.cons _ (r1.symm.append_right _)) z) ?_
  refine St.sub (.cons₂ _ ?_) (h3.perm (.cons _ List.perm_middle))
  exact .cons₂ _ (r2.append_right _)
end
section
variable {Γ : Gm} {e : Expr} {p pos apos p1 p2 : Pos} {x : Str} {i : Nat}
theorem hu_dct {X : Cx} (ok : Γ.Ok X) : X.A.units + 1 < cLine := by have := ok.room.un; omega
/-- d["k"], a plain part -/
theorem sd_getD (i : Nat) {k : Str} {b : Expr} (hb : Sd Γ b (mC (.str k))) (hs : NoSl b := by exact fun _ _ => rfl) (hN : Γ.N[i]? = some x := by rfl) (hv : Γ.vis x = true := by kernel_rfl) (hd : (x == ("__debug__" : Str)) = false := by kernel_rfl) (hcd : (x == ("__classdict__" : Str)) = false := by kernel_rfl) :
    Sd Γ (.Subscript (.Name x p) b pos) (mGetD i k) := ⟨fun X ok env o env' hm σ H T hr Q q => by
  unfold mGetD at hm
  split at hm
  · rename_i ks os q0
    split at hm
    · rename_i j q1
      split at hm
      · rename_i y q2
        have e1 := Option.some.inj hm
        injection e1 with e1 e2
        subst e1 e2
        refine ⟨_, pe_dget (hu_dct ok) (pe_var (i := i) (by rw [ok.hN]; exact hN) (ok.vis hv) hd hcd) (pe_best X b) hs, ?_⟩
        obtain ⟨v, h1, r1⟩ := hr.take q0
        refine ⟨v, h1, ?_⟩
        refine hb.run X ok env (.d (.str k)) env rfl σ H T hr _ fun w H1 r2 => ?_
        have ew : w = .str k := by
          obtain ⟨L, _, hS⟩ := r2
          exact hS.strv
        subst ew
        obtain ⟨v', h1', L, hE, hS⟩ := r2.drop.take q0
        rw [h1] at h1'
        have e := Option.some.inj (Option.some.inj h1')
        subst e
        obtain ⟨a, kvs, v1, C, g1, g2, g3, g4, g5, g6⟩ := St.kidD hS q2
        subst g1
        have iv := (idx_val (.inr k) kvs).1 j (by rw [← g2]; exact q1)
        rw [g4] at iv
        refine ⟨a, v1, rfl, ?_, q v1 H1 ?_⟩
        · have z := DGet.k (k := Sum.inr k) g3
          rw [iv] at z
          exact z
        · have g7 := g5.dup
          have g8 := g6 H1 (.d y) (.rep (.d y) v1 :: (T ++ L)) (g7.perm (by
            refine .cons _ ?_
            exact List.perm_middle.symm))
          rw [show os.set j (.d y) = os by
            obtain ⟨z1, z2⟩ := List.getElem?_eq_some_iff.mp q2
            rw [← z2]; exact List.set_getElem_self z1] at g8
          have r3 : RS Γ.cfg.K H1 (env.set i none) σ (.rep (.dct ks os) (.ref a) :: .rep (.d y) v1 :: T) := ⟨L, hE, g8⟩
          have r4 := r3.putSame h1
          rw [List.set_set] at r4
          rw [show env.set i (some (.dct ks os)) = env by
            obtain ⟨z1, z2⟩ := List.getElem?_eq_some_iff.mp q0
            rw [← z2]; exact List.set_getElem_self z1] at r4
          exact r4
      · cases hm
    · cases hm
  · cases hm⟩
/-- d["k"] = e, a key that is there -/
theorem ss_setD {k : Str} {b : Expr} {me : M O} (i : Nat) (he : Sd Γ e me) (hb : Sd Γ b (mC (.str k))) (hN : Γ.N[i]? = some x := by rfl) (hv : Γ.vis x = true := by kernel_rfl)
    (hs : ∀ env : PySem.Env, env.scope.names = Γ.sc → swapsWith e (some (.Subscript (.Name x p) b p1)) pos.line env = pure false := by intro _ _; rfl)
    (hd : (x == ("__debug__" : Str)) = false := by kernel_rfl) (hcd : (x == ("__classdict__" : Str)) = false := by kernel_rfl) : Ss Γ (.Assign [.Subscript (.Name x p) b p1] e pos) (sSetD i k me) [] := ⟨fun X ok env fl env' hm σ H T hr D q => by
  unfold sSetD at hm
  split at hm
  · rename_i y s1 h1
    split at hm
    · rename_i ks os q0
      split at hm
      · rename_i j q1
        by_cases hz : onceK (.str k) ks = true ∧ os.length < sizeLine
        · rw [if_pos hz] at hm
          have e1 := Option.some.inj hm
          injection e1 with e1 e2
          subst e1 e2
          refine ⟨_, ps_dput (hu_dct ok) (pe_var (i := i) (by rw [ok.hN]; exact hN) (ok.vis hv) hd hcd) (pe_best X b) (pe_best X e) (hs X.env ok.hsc), ?_⟩
          refine he.run X ok env y s1 h1 σ H T hr _ fun w H1 r1 => ?_
          obtain ⟨a, kvs0, g1, g2, g3⟩ := slot_dct r1 q0
          refine ⟨.ref a, g1, ?_⟩
          refine hb.run X ok s1 (.d (.str k)) s1 rfl σ H1 _ r1 _ fun z H2 r2 => ?_
          have ez : z = .str k := by
            obtain ⟨L, _, hS⟩ := r2
            exact hS.strv
          subst ez
          obtain ⟨v', g4, r3⟩ := r2.drop.take q0
          rw [g1] at g4
          have e := Option.some.inj (Option.some.inj g4)
          subst e
          obtain ⟨kvs, f1, f2, f3⟩ := setD_rs q1 hz.1 r3
          refine ⟨a, _, rfl, DPut.k (k := .inr k) f1 (by rw [f2]; exact hz.2), q σ _ ?_ (Kp.refl _ _)⟩
          have f4 := f3.putSame g1
          rw [List.set_set] at f4
          exact f4
        · rw [if_neg hz] at hm; cases hm
      · cases hm
    · cases hm
  · cases hm⟩
/-- the reading of d["k"], its part a list at a1; what is held is opened -/
theorem kid_readD {X : Cx} (ok : Γ.Ok X) {k : Str} {b : Expr} (hb : Sd Γ b (mC (.str k))) (hs : NoSl b) (hN : Γ.N[i]? = some x) (hv : Γ.vis x = true) (hd : (x == ("__debug__" : Str)) = false) (hcd : (x == ("__classdict__" : Str)) = false)
    {env : Env} {j : Nat} {ks : List D} {os cs : List O} (hk : kidD k env[i]? = some (j, ks, os, cs)) {σ : L2.St} {H : Hp} {T : List It} (hr : RS Γ.cfg.K H env σ T) {Q : VK}
    (q : ∀ (a a1 : Addr) (C : List It) H1, σ[i]? = some (some (.ref a)) → RS Γ.cfg.K H1 (env.set i none) σ (.rep (.lst cs) (.ref a1) :: (C ++ T)) → (∀ H' c' R, St Γ.cfg.K H' (.rep c' (.ref a1) :: (C ++ R)) → St Γ.cfg.K H' (.rep (.dct ks (os.set j c')) (.ref a) :: R)) → Q (.ref a1) H1) :
    WE X (.Subscript (.Name x p) b pos) σ H Q := by
  obtain ⟨q0, q1, q2⟩ := kidD_some hk
  have q0 : env[i]? = some (some (.dct ks os)) := q0
  have q1 : idxKey (.str k) ks = some j := q1
  have q2 : os[j]? = some (.lst cs) := q2
  refine ⟨_, pe_dget (hu_dct ok) (pe_var (i := i) (by rw [ok.hN]; exact hN) (ok.vis hv) hd hcd) (pe_best X b) hs, ?_⟩
  obtain ⟨v, h1, r1⟩ := hr.take q0
  refine ⟨v, h1, ?_⟩
  refine hb.run X ok env (.d (.str k)) env rfl σ H T hr _ fun w H1 r2 => ?_
  have ew : w = .str k := by
    obtain ⟨L, _, hS⟩ := r2
    exact hS.strv
  subst ew
  obtain ⟨v', h1', L, hE, hS⟩ := r2.drop.take q0
  rw [h1] at h1'
  have e := Option.some.inj (Option.some.inj h1')
  subst e
  obtain ⟨a, kvs, v1, C, g1, g2, g3, g4, g5, g6⟩ := St.kidD (L := T ++ L) hS q2
  subst g1
  obtain ⟨a1, ws, e1, hl, h2⟩ := g5.open_lst
  subst e1
  have iv := (idx_val (.inr k) kvs).1 j (by rw [← g2]; exact q1)
  rw [g4] at iv
  refine ⟨a, .ref a1, rfl, ?_, q a a1 C H1 h1 ⟨L, hE, by
    show St Γ.cfg.K H1 (.rep (.lst cs) (.ref a1) :: (C ++ T ++ L))
    rw [List.append_assoc]; exact g5⟩ fun H' c' R h' => g6 H' c' R h'⟩
  have z := DGet.k (k := Sum.inr k) g3
  rw [iv] at z
  exact z
theorem kid_backD {K : PySem.W.Frag} {H : Hp} {env : Env} {σ : L2.St} {T C : List It} {a a1 : Addr} {o : O → O} {c' : O} (h : RS K H env σ (.rep c' (.ref a1) :: (C ++ T))) (g : ∀ H' c' R, St K H' (.rep c' (.ref a1) :: (C ++ R)) → St K H' (.rep (o c') (.ref a) :: R))
    (hs : σ[i]? = some (some (.ref a))) : RS K H (env.set i (some (o c'))) σ T := by
  have r : RS K H env σ (.rep (o c') (.ref a) :: T) := h.lift fun L hS => g H c' (T ++ L) (by
    have z : St K H (.rep c' (.ref a1) :: (C ++ T ++ L)) := hS
    rw [List.append_assoc] at z
    exact z)
  exact r.putSame hs
theorem sd_kidPopD (i : Nat) {k : Str} {b : Expr} (hb : Sd Γ b (mC (.str k))) (hs : NoSl b := by exact fun _ _ => rfl) (hN : Γ.N[i]? = some x := by rfl) (hv : Γ.vis x = true := by kernel_rfl)
    (hbase : ∀ env : PySem.Env, attributeBase (.Subscript (.Name x p) b p1) "pop" env (eval (.Subscript (.Name x p) b p1) env) = eval (.Subscript (.Name x p) b p1) env := by intro _; rfl) (hline : (apos.endLine == pos.line) = true := by rfl)
    (hd : (x == ("__debug__" : Str)) = false := by kernel_rfl) (hcd : (x == ("__classdict__" : Str)) = false := by kernel_rfl) : Sd Γ (.Call (.Attribute (.Subscript (.Name x p) b p1) "pop" apos) [] [] pos) (mKidPopD i k) := ⟨fun X ok env o env' hm σ H T hr Q q => by
  unfold mKidPopD at hm
  split at hm
  · rename_i j ks os cs q0
    split at hm
    · rename_i y q1
      have e1 := Option.some.inj hm
      injection e1 with e1 e2
      subst e1 e2
      refine ⟨_, pe_bm0 (T := "list") PySem.F.plainAttrs_list PySem.F.slot_list_pop PySem.F.type_list_pop (mt_pop (X := X)) (pe_best X _) (hbase X.env) hline, ?_⟩
      refine kid_readD ok hb hs hN hv hd hcd q0 hr fun a a1 C H1 h1 r1 g => ?_
      obtain ⟨acc, w, f1, f2, f3, f4⟩ := pop_rs (getLast_get q1) r1
      rw [← f2, last_erase] at f4
      rw [f2, last_erase] at f4
      rw [← f2] at f3
      refine ⟨ty_list f1, a1, acc, w, rfl, rfl, f1, f3, q w _ ?_⟩
      have f5 := kid_backD (i := i) (T := .rep y w :: T) (o := fun c => .dct ks (os.set j c)) (f4.perm (by
        refine (List.Perm.swap _ _ _).trans (.cons _ ?_)
        exact List.perm_middle.symm)) g h1
      rw [List.set_set] at f5
      exact f5
    · cases hm
  · cases hm⟩
theorem sd_kidAppD (i : Nat) {k : Str} {b : Expr} {me : M O} (hb : Sd Γ b (mC (.str k))) (he : Sd Γ e me) (hns : ∀ env : PySem.Env, starEach [e] env = (false, eval e env) :: starEach [] env := by intro _; rfl) (hs : NoSl b := by exact fun _ _ => rfl) (hN : Γ.N[i]? = some x := by rfl) (hv : Γ.vis x = true := by kernel_rfl)
    (hbase : ∀ env : PySem.Env, attributeBase (.Subscript (.Name x p) b p1) "append" env (eval (.Subscript (.Name x p) b p1) env) = eval (.Subscript (.Name x p) b p1) env := by intro _; rfl)
    (hfew : ∀ env : PySem.Env, ((backTo pos (starEach [e] env)).all (fun x => !x.1) && (backToKw pos (keywordEach [] env)).all (fun x => x.1.isSome) && decide ([e].length + ([] : List Keyword).length + (if ([] : List Keyword).isEmpty then 0 else 1) < 30)) = true := by intro _; rfl)
    (hline : (apos.endLine == pos.line) = true := by rfl)
    (hd : (x == ("__debug__" : Str)) = false := by kernel_rfl) (hcd : (x == ("__classdict__" : Str)) = false := by kernel_rfl) : Sd Γ (.Call (.Attribute (.Subscript (.Name x p) b p1) "append" apos) [e] [] pos) (mKidAppD i k me) := ⟨fun X ok env o env' hm σ H T hr Q q => by
  unfold mKidAppD at hm
  split at hm
  · rename_i j ks os cs q0
    split at hm
    · rename_i y s' q1
      by_cases hl : cs.length < sizeLine ∧ i < s'.length
      · rw [if_pos hl] at hm
        have e1 := Option.some.inj hm
        injection e1 with e1 e2
        subst e1 e2
        have hn : NoStars [e] := ns_cons ns_nil hns
        refine ⟨_, pe_bm (T := "list") PySem.F.plainAttrs_list PySem.F.slot_list_append PySem.F.type_list_append (mt_append (X := X)) (pe_best X _) (pa_of hn) (hbase X.env) (hfew X.env) hline (hns X.env) (backTo_plain ns_nil), ?_⟩
        refine kid_readD ok hb hs hN hv hd hcd q0 hr fun a a1 C H1 h1 r1 g => ?_
        have hty : ∃ xs, H1 a1 = some (.lst xs) := by
          obtain ⟨L, _, hS⟩ := r1
          obtain ⟨a', ws, e1, _, h2⟩ := St.open_lst hS
          cases e1
          exact ⟨ws, h2.raw_at⟩
        obtain ⟨xs, hty⟩ := hty
        refine ⟨ty_list hty, ?_⟩
        refine he.run X ok _ y s' q1 σ H1 _ r1 _ fun w H2 r2 => ?_
        obtain ⟨acc, f1, f2, f3⟩ := append_rs r2
        refine ⟨a1, acc, w, rfl, rfl, f1, by rw [f2]; exact hl.1, q .non _ ?_⟩
        have f5 := kid_backD (i := i) (o := fun c => .dct ks (os.set j c)) f3 g h1
        exact f5.lift fun L h => h.flat rfl
      · rw [if_neg hl] at hm; cases hm
    · cases hm
  · cases hm⟩
theorem sdT_kidNeD (i : Nat) {k : Str} {b : Expr} {p2 : Pos} (hb : Sd Γ b (mC (.str k))) (hs : NoSl b := by exact fun _ _ => rfl) (hN : Γ.N[i]? = some x := by rfl) (hv : Γ.vis x = true := by kernel_rfl) (hd : (x == ("__debug__" : Str)) = false := by kernel_rfl) (hcd : (x == ("__classdict__" : Str)) = false := by kernel_rfl)
    (hm : behindInMarks .NotEq (.List [] p2) = false := by first | exact nomark _ | rfl) :
    SdT Γ (.Compare (.Subscript (.Name x p) b p1) [.NotEq] [.List [] p2] pos) (tKidNeD i k) := ⟨fun X ok env o env' hm' σ H T hr Q q => by
  unfold tKidNeD at hm'
  split at hm'
  · rename_i j ks os cs q0
    split at hm'
    · rename_i ds q1
      by_cases hds : ds.all isInt = true
      · rw [if_pos hds] at hm'
        have e1 := Option.some.inj hm'
        injection e1 with e1 e2
        subst e1 e2
        refine ⟨_, pt_cmpR (op_neD ok.room.units) (pe_best X _) (pe_lst pa_nil) hm, ?_⟩
        refine kid_readD ok hb hs hN hv hd hcd q0 hr fun a a1 C H1 h1 r1 g => ?_
        have hEl := leafs_eq q1
        subst hEl
        refine ⟨Nat.zero_le _, fun l hl => ?_⟩
        obtain ⟨L, hE, hS⟩ := id r1
        have hA := St.alloc (u := .lst []) hl hS
        have hS1 : St Γ.cfg.K (upd H1 l (.lst [])) (.rep (.lst (leaf ds)) (.ref a1) :: (C ++ T ++ L)) := hA.drop
        have rep := Look.rep hS1 (d := .lst ds) (v := .ref a1) ⟨.lst (leaf ds), List.mem_cons_self, by
          show (match O.leafs (leaf ds) with | some l => some (D.lst l) | none => none) = some (D.lst ds)
          rw [leafs_leaf]⟩
        obtain ⟨ps, f1, f2, f3, f4⟩ := pys_ints hds
        have dp := rep_dp rep (p := .list ps) (by rw [D.py, f1])
        refine ⟨.list ps, .list [], by rw [ok.hK]; exact dp, .lst (SqL.of hA.raw_at) .nil, ?_, rfl, !(leaf ds).isEmpty, ?_, q _ ?_⟩
        · show (PyData.canLay0 (.list ps) && decide (PyData.depth (.list ps) ≤ 64)) = true
          rw [PyData.canLay0, PyData.depth, f3, f4]; rfl
        · have e : PyData.eqv (.list ps) (.list []) = (leaf ds).isEmpty := by
            cases ds with
            | nil =>
              cases ps with
              | nil => rfl
              | cons => cases f2
            | cons d ds =>
              cases ps with
              | nil => cases f2
              | cons => rfl
          rw [e]
        · have r2 := kid_backD (i := i) (env := env.set i none) (o := fun c => .dct ks (os.set j c)) ⟨L, hE, hS1⟩ (fun H' c' R h' => g H' c' R h') h1
          rw [List.set_set] at r2
          obtain ⟨z1, z2, z3⟩ := kidD_some q0
          have z1 : env[i]? = some (some (.dct ks os)) := z1
          have z3 : os[j]? = some (.lst (leaf ds)) := z3
          rw [show os.set j (.lst (leaf ds)) = os by
            obtain ⟨y1, y2⟩ := List.getElem?_eq_some_iff.mp z3
            rw [← y2]; exact List.set_getElem_self y1] at r2
          rw [show env.set i (some (.dct ks os)) = env by
            obtain ⟨y1, y2⟩ := List.getElem?_eq_some_iff.mp z1
            rw [← y2]; exact List.set_getElem_self y1] at r2
          exact r2
      · rw [if_neg hds] at hm'; cases hm'
    · cases hm'
  · cases hm'⟩
end
/-! ### {"k": e, ..} -/
/-- the pairs of a display, their keys texts -/
structure Spr (Γ : Gm) (kes : List (Option Expr)) (ves : List Expr) (ks : List Str) (ms : List (M O)) : Prop where
  len : kes.length = ves.length ∧ ks.length = ves.length ∧ kes.all (·.isSome) = true
  run : ∀ X, Γ.Ok X → ∀ pos, ∃ trs, PPs X pos kes ves trs ∧ ∀ env os env', mArgs ms env = some (os, env') → ∀ σ H T, RS Γ.cfg.K H env σ T → ∀ Q : List (V × V) → Hp → Prop,
    (∀ vs H', os.length = vs.length → ks.length = vs.length → RS Γ.cfg.K H' env' σ (reps os vs ++ T) → Q ((ks.map V.str).zip vs) H') → tPairs trs σ H Q
section
variable {Γ : Gm} {k v : Expr} {kes : List (Option Expr)} {ves : List Expr} {ks : List Str} {ms : List (M O)} {pos : Pos}
theorem spr_nil : Spr Γ [] [] [] [] := ⟨⟨rfl, rfl, rfl⟩, fun X ok pos => ⟨[], pps_nil, fun env os env' hm σ H T hr Q q => by
  have e1 := Option.some.inj (show some (([] : List O), env) = some (os, env') from hm)
  injection e1 with e1 e2
  subst e1 e2
  exact q [] H rfl rfl hr⟩⟩
theorem spr_cons {c : Str} {m : M O} (hk : Sd Γ k (mC (.str c))) (hv : Sd Γ v m) (hs : Spr Γ kes ves ks ms) : Spr Γ (some k :: kes) (v :: ves) (c :: ks) (m :: ms) := by
  obtain ⟨⟨l1, l2, l3⟩, hr⟩ := hs
  refine ⟨⟨by simp [l1], by simp [l2], by simpa using l3⟩, fun X ok pos => ?_⟩
  obtain ⟨trs, h1, h2⟩ := hr X ok pos
  refine ⟨_, pps_cons (pe_best X k) (pe_best X v) h1, fun env os env' hm σ H T hr Q q => ?_⟩
  obtain ⟨o, s1, g1, g2⟩ := mbind_some (show mbind m (fun a => mbind (mArgs ms) fun l => mpure (a :: l)) env = _ from hm)
  obtain ⟨l, s2, g3, g4⟩ := mbind_some g2
  have e1 := Option.some.inj (show some (o :: l, s2) = some (os, env') from g4)
  injection e1 with e1 e2
  subst e1 e2
  refine hk.run X ok env (.d (.str c)) env rfl σ H T hr _ fun z H1 r1 => ?_
  have ez : z = .str c := by
    obtain ⟨L, _, hS⟩ := r1
    exact hS.strv
  subst ez
  refine hv.run X ok env o s1 g1 σ H1 T r1.drop _ fun w H2 r2 => ?_
  refine h2 s1 l s2 g3 σ H2 (.rep o w :: T) r2 _ fun vs H3 e1 e2 r3 => ?_
  exact q (w :: vs) H3 (by simp [e1]) (by simp [e2]) (r3.perm List.perm_middle)
def ndS : List Str → Bool
  | [] => true
  | x :: r => (r.all fun y => decide (x ≠ y)) && ndS r
theorem merge_nd : ∀ (more acc : List (Key × V)), (∀ p ∈ more, valV acc p.1 = none) → (more.map (·.1)).Nodup → mergeK acc more = acc ++ more
  | [], acc, _, _ => by simp [mergeK]
  | p :: r, acc, h, nd => by
    have h1 := putK_new p.2 (h p List.mem_cons_self)
    show mergeK (putK acc p.1 p.2) r = _
    rw [h1, merge_nd r _ (fun q hq => ?_) (by rw [List.map_cons] at nd; exact (List.nodup_cons.mp nd).2), List.append_assoc]
    · rfl
    · rw [valV_snoc _ _ _ _ (h p List.mem_cons_self), if_neg]
      · exact h q (List.mem_cons_of_mem _ hq)
      · intro e
        rw [List.map_cons] at nd
        exact (List.nodup_cons.mp nd).1 (e ▸ List.mem_map_of_mem hq)
theorem nd_keys : ∀ {ks : List Str}, ndS ks = true → (ks.map (Sum.inr : Str → Key)).Nodup
  | [], _ => .nil
  | x :: r, h => by
    rw [ndS, Bool.and_eq_true] at h
    rw [List.map_cons]
    refine List.nodup_cons.mpr ⟨fun hx => ?_, nd_keys h.2⟩
    obtain ⟨y, hy, e⟩ := List.mem_map.mp hx
    have e := Sum.inr.inj e
    have := List.all_eq_true.mp h.1 y hy
    simp [e] at this
theorem sd_dctS (h : Spr Γ kes ves ks ms) (h0 : kes ≠ [] := by exact fun z => nomatch z) (h15 : kes.length ≤ 15 := by decide) (hn : ndS ks = true := by decide +kernel) : Sd Γ (.Dict kes ves pos) (mDctS ks ms) := ⟨fun X ok env o env' hm σ H T hr Q q => by
  unfold mDctS at hm
  split at hm
  · rename_i os s' h1
    have e1 := Option.some.inj hm
    injection e1 with e1 e2
    subst e1 e2
    obtain ⟨trs, g1, g2⟩ := h.run X ok pos
    refine ⟨_, pe_disp g1 h.len.2.2 h.len.1 h0 h15, fun p hp => ?_⟩
    have r0 : RS Γ.cfg.K (upd H p (.dK [])) env σ (.raw p (.dK []) :: T) := hr.lift fun L hS => St.alloc hp hS
    refine g2 env os s' h1 σ _ _ r0 _ fun vs H' e1 e2 r1 => ?_
    have r2 := r1.perm (List.perm_middle (a := It.raw p (.dK [])))
    obtain ⟨L, hE, hS⟩ := r2
    have ra : H' p = some (.dK []) := St.raw_at (L := (reps os vs ++ T) ++ L) hS
    have lz : ((ks.map (Sum.inr : Str → Key)).zip vs).length = vs.length := by rw [List.length_zip, List.length_map, e2, Nat.min_self]
    have f1 : ((ks.map (Sum.inr : Str → Key)).zip vs).map (·.1) = ks.map Sum.inr := List.map_fst_zip (by rw [List.length_map, e2]; exact Nat.le_refl _)
    have f2 : ((ks.map (Sum.inr : Str → Key)).zip vs).map (·.2) = vs := List.map_snd_zip (by rw [List.length_map, e2]; exact Nat.le_refl _)
    have ev : (ks.map V.str).zip vs = ((ks.map (Sum.inr : Str → Key)).zip vs).map fun kv => (kV kv.1, kv.2) := by
      rw [List.zip_map_left, List.zip_map_left, List.map_map]; rfl
    have mg : mergeK [] ((ks.map (Sum.inr : Str → Key)).zip vs) = (ks.map (Sum.inr : Str → Key)).zip vs := by
      rw [merge_nd _ _ (fun _ _ => rfl) (by rw [f1]; exact nd_keys hn)]; rfl
    refine ⟨ra, (ks.map (Sum.inr : Str → Key)).zip vs, ev, ?_, ?_⟩
    · rw [lz, ← e2, h.len.2.1, ← h.len.1]; exact h15
    · rw [mg]
      refine q _ _ ⟨L, hE, ?_⟩
      have w := St.write (u' := .dK ((ks.map (Sum.inr : Str → Key)).zip vs)) (L := (reps os vs ++ T) ++ L) hS
      have ek : ks.map D.str = ((ks.map (Sum.inr : Str → Key)).zip vs).map fun p => keyD p.1 := by
        have z := congrArg (List.map keyD) f1
        rw [List.map_map, List.map_map] at z
        exact z.symm
      rw [ek]
      refine St.close_dct (L := T ++ L) (by rw [f2]; exact e1) ?_
      rw [f2]
      rw [List.append_assoc] at w
      exact w
  · cases hm⟩
end
end BM

set_option Elab.async false
set_option linter.all false
set_option maxRecDepth 100000
set_option maxHeartbeats 4000000
/-! BM, part 29: enumerate of a tuple, reversed of a list or a tuple, text * int. -/
namespace PySem
open Sem (wp)
open AutoSeq1 (wpAny_loadPart')
theorem BMmeets_enumerate_newT (l : Addr) (items : Array Value) (n : Nat) (dct : Option Addr) (sl : Array (Option Value)) :
    Meets (Builtin.«enumerate.__new__» ⟨[.type "enumerate", .ref l], []⟩) (fun _ R s => s.heap.get? l = some { cls := .type "tuple", dict := dct, data := .seq items n, slots := sl } ∧
      R (.ok (.ret (.ref (s.heap.push { cls := .type "tuple_iterator", data := .fields #[.ref l, .int 0 0] }).objs.size)))
        { s with heap := (s.heap.push { cls := .type "tuple_iterator", data := .fields #[.ref l, .int 0 0] }).push { cls := .type "enumerate", data := .fields #[.none, .bool false, .ref s.heap.objs.size, rawInt 0, .none, .none] } }) :=
  .of_wp fun prog w A R s h => by
    obtain ⟨hp, g, d, tk, os⟩ := s; obtain ⟨hl, h⟩ := h
    have hsub := sub_enumerate
    have hL : Heap.IsTuple (Shared.heap ⟨hp, g, d, tk, os⟩) l items := ⟨_, hl, rfl, n, rfl⟩
    wp_walk using wpAny_loadPart' hl
    refine wpAny_stack_any fun st => wpAny_pure ?_
    split
    · rename_i c _ _ _ _ _
      cases (c == Value.type "enumerate")
      · wp_walk using wpAny_loadPart' hl, wpAny_pyIter_tuple hL
        exact ⟨_, rfl, h⟩
      · wp_walk using wpAny_loadPart' hl, wpAny_pyIter_tuple hL
        exact ⟨_, rfl, h⟩
    · wp_walk using wpAny_loadPart' hl, wpAny_pyIter_tuple hL
      exact ⟨_, rfl, h⟩
section
variable {prog : Program} {w : World} {A : Around} {E : Value → Shared → Prop} {s : Shared}
theorem BMcall_enumerate_tuple {l : Addr} {items : Array Value} {Q : Value → Shared → Prop} (hL : s.heap.IsTuple l items)
    (h : ∀ h', IsEnum h' (s.heap.objs.size + 1) s.heap.objs.size 0 .none → h'.IsTupleIter s.heap.objs.size l 0 → h'.objs.size = s.heap.objs.size + 2 →
      (∀ b o, s.heap.get? b = some o → h'.get? b = some o) → Q (.ref (s.heap.objs.size + 1)) { s with heap := h' }) :
    wpAny (model prog w) A (call (.type "enumerate") [.ref l]) Q E s := by
  obtain ⟨⟨c, dct, dt, sl⟩, hl, hc, n, hd⟩ := hL
  replace hc : c = .type "tuple" := hc
  replace hd : dt = .seq items n := hd
  subst hc hd
  refine callType_new F.called_enumerate (by decide) (F.typeCall_enumerate_1 _) (F.newCall_enumerate_1 _) (fun obj => F.args_object_init_2 obj _) F.entry_enumerate_new
    (BMmeets_enumerate_newT l items n dct sl) ⟨hl, ?_⟩
  have hz : (s.heap.push { cls := .type "tuple_iterator", data := .fields #[.ref l, .int 0 0] }).objs.size = s.heap.objs.size + 1 := Heap.size_push ..
  show _ ∧ _
  rw [hz]
  have he : IsEnum ((s.heap.push { cls := .type "tuple_iterator", data := .fields #[.ref l, .int 0 0] }).push
      { cls := .type "enumerate", data := .fields #[.none, .bool false, .ref s.heap.objs.size, rawInt 0, .none, .none] }) (s.heap.objs.size + 1) s.heap.objs.size 0 .none := by
    have := Heap.get?_push_size (s.heap.push { cls := .type "tuple_iterator", data := .fields #[.ref l, .int 0 0] })
      (o := { cls := .type "enumerate", data := .fields #[.none, .bool false, .ref s.heap.objs.size, rawInt 0, .none, .none] }) rfl
    rw [hz] at this; exact this
  refine ⟨⟨_, he, rfl⟩, h _ he ⟨_, Heap.get?_push_of_some _ (Heap.get?_push_size _ rfl), rfl, rfl⟩ (by rw [Heap.size_push, hz]) fun b o x => Heap.get?_push_of_some _ (Heap.get?_push_of_some _ x)⟩
end
end PySem
namespace BM
open PySem PySem.Spec PyProof.Rows L2
def IteT (K : PySem.W.Frag) (a : Addr) : L2.It :=
  ⟨fun i H => ∃ (xs : List V) (x : V), SqT K H a xs ∧ xs[i]? = some x, fun i H v H' => ∃ T x, v = .ref T ∧ H T = none ∧ H' = upd H T (.tup [.int (i : Nat), x]) ∧ ∀ xs, SqT K H a xs → xs[i]? = some x, fun i H => ∃ xs : List V, SqT K H a xs ∧ xs.length ≤ i⟩
theorem turn_enumT {P : Program} {w : World} {K : PySem.W.Frag} {elts : List Expr} {kk : Nat} {tpos : Pos} (a e it : Addr) :
    Turn P w K (.Tuple elts kk tpos) (IteT K a) [e, it] e (fun i h => (∃ old, IsEnum h e it ((i : Nat) : Int) old) ∧ h.IsTupleIter it a i ∧ e ≠ it ∧ a ≠ it ∧ a ≠ e) where
  mem := by simp
  obj := fun i h st b hb => by
    obtain ⟨⟨old, he⟩, ⟨o, ho, hc, hd⟩, _⟩ := st
    have e' : b = e ∨ b = it := by simpa using hb
    rcases e' with z | z
    · rw [z]; exact ⟨_, he, fun v q => nomatch q⟩
    · rw [z]; exact ⟨o, ho, fun v q => by rw [hd] at q; cases q⟩
  keep := fun i h h' st k => let ⟨⟨old, he⟩, hi, hne⟩ := st; ⟨⟨old, k e (by simp) _ he⟩, hi.at fun o q => k it (by simp) o q, hne⟩
  item := by
    intro X hP hw hK hc i pins s σ H E I hf st hg
    subst hP hw hK
    obtain ⟨⟨old, he⟩, hit, hne, hai, hae⟩ := st
    obtain ⟨xs, x, hq, hx⟩ := hg
    obtain ⟨its, rv, p, hz⟩ := I.tuple hq
    obtain ⟨u, hu, ru⟩ := rv.get hx
    have p : s.heap.IsTuple a its.toArray := p
    have hel : e < s.heap.objs.size := Heap.lt_size he
    have hil : it < s.heap.objs.size := by obtain ⟨_, q, _⟩ := hit; exact Heap.lt_size q
    have hlt : i < its.toArray.size := by
      have := (List.getElem?_eq_some_iff.mp hu).1
      simpa using this
    refine wpAny_pyNext_enum_itemD (Draws.tuple (A := X.A.in1) (show X.A.in1.handled = none from I.ok.hd hc) it a hai its.toArray) he ⟨hit, p⟩ hlt hne (by simp [hne, Ne.symm hae]) fun x0 h' tk hPx ho hs' hT hsz hk => ?_
    have ex0 : x0 = u := by
      have z : its.toArray[i]? = some u := by simpa using hu
      rw [z] at hPx
      exact (Option.some.inj hPx).symm
    subst ex0
    obtain ⟨hit', hp'⟩ := hs'
    refine ⟨_, rfl, wpAny_letOwnedTupleGo_enum (s := { s with heap := h', toks := tk + 1 }) ho fun h'' he' sb => ?_⟩
    have hT2 : h''.get? s.heap.objs.size = some { cls := .type "tuple", data := .seq #[.int i tk, x0] } := (sb.2 _ (Nat.ne_of_gt hel)).trans hT
    have new : ObjOk X.prog X.w (upd H s.heap.objs.size (.tup [.int (i : Nat), x])) h'' s.heap.objs.size (.tup [.int (i : Nat), x]) :=
      ⟨by show 2 ≤ sizeLine; decide, [.int i tk, x0], .cons ⟨_, rfl⟩ (.cons ru .nil), ⟨_, hT2, rfl, _, rfl⟩⟩
    have I1 : Inv X pins σ (upd H s.heap.objs.size (.tup [.int (i : Nat), x])) { s with heap := h'', toks := tk + 1 } :=
      I.turnedNew (ch := [e, it]) (fun b ob hb q => (sb.2 b (fun z => hb (by simp [z]))).trans (hk b ob (fun z => hb (by simp [z])) (fun z => hb (by simp [z])) q)) hf (Nat.le_refl _) new
    refine ⟨.ref s.heap.objs.size, _, I1, rfl, ⟨_, x, rfl, I.hok.fresh (Nat.le_refl _), rfl, fun ys hy => by rw [I.tuple_inj hy hq]; exact hx⟩, ⟨⟨x0, ?_⟩, hit'.at fun o q => (sb.2 it (Ne.symm hne)).trans q, hne, hai, hae⟩, fun b hb => ?_⟩
    · have e1 : ((i + 1 : Nat) : Int) = (i : Int) + 1 := by omega
      rw [e1]; exact he'
    · have hb' : b < s.heap.objs.size := by
        have e' : b = e ∨ b = it := by simpa using hb
        rcases e' with z | z
        · rw [z]; exact hel
        · rw [z]; exact hil
      rw [upd_ne (Nat.ne_of_lt hb')]
      exact (hf b hb).1
  done := by
    intro X hP hw hK hc i pins s σ H E I hf st hg
    subst hP hw hK
    obtain ⟨⟨old, he⟩, hit, hne, hai, hae⟩ := st
    obtain ⟨xs, hq, hx⟩ := hg
    obtain ⟨its, rv, p, hz⟩ := I.tuple hq
    obtain ⟨f0, f1, f2, f3, f4, f5⟩ := hf it (by simp)
    have p : s.heap.IsTuple a its.toArray := p
    have hl := rv.length
    -- a run that is at its end: i ≥ size; the iterator's own end
    have hT : s.TypeIs (.ref e) "enumerate" := ⟨_, he, rfl⟩
    unfold pyNext
    refine wpAny_bind (wpAny_attempt (wpAny_callSpecial?_slot (name := Str.ofString "__next__") hT F.slot_enumerate_next
      (wpAny_call_entry F.slot_enumerate_next hT F.entry_enumerate_next ?_ (F.args_enumerate_next_1 _))))
    show wpAny _ _ (field (.ref e) 2 >>= _) _ _ _
    refine wpAny_bind (wpAny_field he rfl (x := .ref it) rfl ?_)
    refine wpAny_bind (wpAny_nextOf_tuple_end (I.ok.hd hc) hit p (by simp; omega) fun h' x he' hx' => ?_)
    obtain ⟨o, ho, hc'⟩ := hx'
    refine wpAny_bind (wpAny_isInstance (T := "StopIteration") (b := true) ⟨o, ho, hc'⟩ isSubtype_stop ?_)
    exact wpAny_pure ⟨rfl, I.turned (t' := s.toks) (fun b o hb q => he' b o hb q) f0 f1 f3 f4 f5⟩
  self := fun A i s Q E st h => let ⟨⟨_, he⟩, _⟩ := st; wpAny_pyIter_enum he h
def iEnumT (K : PySem.W.Frag) (ta : TA) : TI := fun σ H R => ta σ H fun vs H1 => ∃ a xs, vs = [.ref a] ∧ SqT K H1 a xs ∧ R (IteT K a) H1
theorem pi_enumT {X : Cx} {e : Expr} {ta : TA} {p pos tpos : Pos} {elts : List Expr} {kk : Nat} (hg : Gl X "enumerate") (hm : X.mg "enumerate" = none) (ha : PA X [e] ta) (hs : starEach [e] X.env = [(false, eval e X.env)] := by rfl) :
    PI X (.Tuple elts kk tpos) (.Call (.Name "enumerate" p) [e] [] pos) (iEnumT X.K ta) := by
  refine ⟨fun pins s σ H R I h => ?_⟩
  refine Call_ (ld_blt I hg hm boot_enumerate (PyProof.Rows.callWith_type1 (thn (ha.run pos pins s σ H _ I h) fun us s1 ⟨vs, H1, I1, r1, q1⟩ => ?_) hs rfl))
  obtain ⟨a, xs, ex, hq, q⟩ := q1
  subst ex
  cases r1 with
  | cons r rr =>
    cases rr
    cases r
    obtain ⟨its, rv, p', hz⟩ := I1.tuple hq
    have p' : s1.heap.IsTuple a its.toArray := p'
    have hal : a < s1.heap.objs.size := by obtain ⟨_, q, _⟩ := id p'; exact Heap.lt_size q
    refine BMcall_enumerate_tuple p' fun h' he hit hsz hk => wpAny_pyIter_enum he ?_
    have I2 : Inv X pins σ H1 { s1 with heap := h' } := I1.kept (t' := s1.toks) hk
    refine ⟨s1.heap.objs.size + 1, [s1.heap.objs.size + 1, s1.heap.objs.size], _, _, H1, rfl, I2, turn_enumT a (s1.heap.objs.size + 1) s1.heap.objs.size, ⟨⟨.none, he⟩, hit, Nat.succ_ne_self _, Nat.ne_of_lt hal, Nat.ne_of_lt (Nat.lt_succ_of_lt hal)⟩, fun b hb => ?_, q⟩
    have e' : b = s1.heap.objs.size + 1 ∨ b = s1.heap.objs.size := by simpa using hb
    have hle : s1.heap.objs.size ≤ b := by
      rcases e' with z | z
      · rw [z]; exact Nat.le_add_right _ _
      · rw [z]; exact Nat.le_refl _
    exact I1.fpOk hle (I1.hok.fresh hle)
def iEnT (m : M O) : M (List D) := fun s => match m s with
  | some (o, s') => match o.toD with
    | .tup l => some (enumD l, s')
    | _ => none
  | none => none
def iRv (m : M O) : M (List D) := fun s => match m s with
  | some (o, s') => match listOfD o.toD with
    | some l => some (l.reverse, s')
    | none => none
  | none => none
section
variable {Γ : Gm} {e tg : Expr} {m : M O} {p pos tpos : Pos} {elts : List Expr} {kk : Nat}
theorem si_enumT (h : Sd Γ e m) (hg : Γ.glo "enumerate" = true) (hmg : Γ.cfg.mg "enumerate" = none) (hn : NoStars [e] := by exact ns_cons ns_nil) (hs : ∀ env : PySem.Env, starEach [e] env = [(false, eval e env)] := by intro _; rfl) :
    Si Γ (.Tuple elts kk tpos) (.Call (.Name "enumerate" p) [e] [] pos) (iEnT m) := ⟨fun X ok env ds env' hm σ H T hr R q => by
  unfold iEnT at hm
  split at hm
  · rename_i o s1 q1
    split at hm
    · rename_i l q2
      have e1 := Option.some.inj hm
      injection e1 with e1 e2
      subst e1 e2
      refine ⟨_, pi_enumT (ok.glo hg) (by rw [ok.hmg]; exact hmg) (pa_of hn) (hs X.env), ?_⟩
      refine h.run X ok env o s1 q1 σ H T hr _ fun v H1 r1 => ?_
      have r1 := r1.freeze
      rw [q2] at r1
      obtain ⟨a, vs, e1, h1⟩ : ∃ a vs, v = .ref a ∧ SqT Γ.cfg.K H1 a vs := by
        obtain ⟨L, _, hS⟩ := r1
        obtain ⟨a, vs, e1, h1, _⟩ := hS.read_tup
        exact ⟨a, vs, e1, h1⟩
      subst e1
      refine ⟨a, vs, rfl, by rw [ok.hK]; exact h1, ?_⟩
      refine q _ H1 [.rep (.d (.tup l)) (.ref a)] ⟨fun i H2 L hi hS => ?_, fun H2 L hS => ?_, fun i H2 L x H' hi hS hy => ?_⟩ r1
      · obtain ⟨a', ws, e1, g1, g2, g3⟩ := St.read_tup (L := L) hS
        cases e1
        rw [enumD_len] at hi
        rw [ok.hK]
        exact ⟨ws, ws[i]'(by omega), g1, by simp [show i < ws.length by omega]⟩
      · obtain ⟨a', ws, e1, g1, g2, g3⟩ := St.read_tup (L := L) hS
        cases e1
        rw [ok.hK]
        exact ⟨ws, g1, by rw [enumD_len]; omega⟩
      · obtain ⟨a', ws, e1, g1, g2, g3⟩ := St.read_tup (L := L) hS
        cases e1
        rw [ok.hK] at hy
        obtain ⟨T', x', rfl, hT, rfl, y2⟩ := hy
        have hi' : i < l.length := by rw [enumD_len] at hi; exact hi
        have s2 := (reps_pick g2 g3 hi' (y2 ws g1)).flat (d := .int (i : Nat)) (v := .int (i : Nat)) rfl
        rw [enumD_at]
        exact St.newTup (ds := [.int (i : Nat), l[i]]) (vs := [.int (i : Nat), x']) rfl hT s2
    · cases hm
  · cases hm⟩
theorem si_rev (h : Sd Γ e m) (hg : Γ.glo "reversed" = true) (hmg : Γ.cfg.mg "reversed" = none) (hs : ∀ env : PySem.Env, starEach [e] env = (false, eval e env) :: starEach [] env := by intro _; rfl) :
    Si Γ tg (.Call (.Name "reversed" p) [e] [] pos) (iRv m) := ⟨fun X ok env ds env' hm σ H T hr R q => by
  unfold iRv at hm
  split at hm
  · rename_i o s1 q1
    split at hm
    · rename_i l q2
      have e1 := Option.some.inj hm
      injection e1 with e1 e2
      subst e1 e2
      refine ⟨_, RT.pi_revA (ok.glo hg) (by rw [ok.hmg]; exact hmg) (pe_best X e) (hs X.env), ?_⟩
      refine h.run X ok env o s1 q1 σ H T hr _ fun v H1 r1 => ?_
      have r1 := r1.freeze
      cases q3 : o.toD with
      | lst l' =>
        rw [q3] at r1 q2
        have e1 := Option.some.inj q2
        subst e1
        obtain ⟨a, vs, e1, h1, hl⟩ : ∃ a vs, v = .ref a ∧ SqL Γ.cfg.K H1 a vs ∧ l'.length = vs.length := by
          obtain ⟨L, _, hS⟩ := r1
          obtain ⟨a, vs, e1, h1, h2, _⟩ := hS.read_lst
          exact ⟨a, vs, e1, h1, h2⟩
        subst e1
        refine ⟨a, vs, rfl, .inl ⟨by rw [ok.hK]; exact h1, ?_⟩⟩
        refine q _ H1 [.rep (.d (.lst l')) (.ref a)] ⟨fun i H2 L hi hS => ?_, fun H2 L hS => ?_, fun i H2 L x H' hi hS hy => ?_⟩ r1
        · obtain ⟨a', ws, e1, g1, g2, g3⟩ := St.read_lst (L := L) hS
          cases e1
          rw [List.length_reverse] at hi
          rw [ok.hK]
          refine ⟨by omega, ws, ws[vs.length - 1 - i]'(by omega), g1, List.getElem?_eq_getElem _⟩
        · show vs.length ≤ l'.reverse.length
          rw [List.length_reverse]; omega
        · obtain ⟨a', ws, e1, g1, g2, g3⟩ := St.read_lst (L := L) hS
          cases e1
          rw [ok.hK] at hy
          obtain ⟨rfl, y2⟩ := hy
          have hi' : i < l'.length := by rw [List.length_reverse] at hi; exact hi
          have s2 := reps_pick (i := vs.length - 1 - i) g2 g3 (by omega) (y2 ws g1)
          rw [List.getElem_reverse]
          have ei : l'.length - 1 - i = vs.length - 1 - i := by omega
          simp only [ei]
          exact s2
      | tup l' =>
        rw [q3] at r1 q2
        have e1 := Option.some.inj q2
        subst e1
        obtain ⟨a, vs, e1, h1, hl⟩ : ∃ a vs, v = .ref a ∧ SqT Γ.cfg.K H1 a vs ∧ l'.length = vs.length := by
          obtain ⟨L, _, hS⟩ := r1
          obtain ⟨a, vs, e1, h1, h2, _⟩ := hS.read_tup
          exact ⟨a, vs, e1, h1, h2⟩
        subst e1
        refine ⟨a, vs, rfl, .inr ⟨by rw [ok.hK]; exact h1, ?_⟩⟩
        refine q _ H1 [.rep (.d (.tup l')) (.ref a)] ⟨fun i H2 L hi hS => ?_, fun H2 L hS => ?_, fun i H2 L x H' hi hS hy => ?_⟩ r1
        · obtain ⟨a', ws, e1, g1, g2, g3⟩ := St.read_tup (L := L) hS
          cases e1
          rw [List.length_reverse] at hi
          rw [ok.hK]
          refine ⟨by omega, ws, ws[vs.length - 1 - i]'(by omega), g1, List.getElem?_eq_getElem _⟩
        · show vs.length ≤ l'.reverse.length
          rw [List.length_reverse]; omega
        · obtain ⟨a', ws, e1, g1, g2, g3⟩ := St.read_tup (L := L) hS
          cases e1
          rw [ok.hK] at hy
          obtain ⟨rfl, y2⟩ := hy
          have hi' : i < l'.length := by rw [List.length_reverse] at hi; exact hi
          have s2 := reps_pick (i := vs.length - 1 - i) g2 g3 (by omega) (y2 ws g1)
          rw [List.getElem_reverse]
          have ei : l'.length - 1 - i = vs.length - 1 - i := by omega
          simp only [ei]
          exact s2
      | non => rw [q3] at q2; cases q2
      | bl _ => rw [q3] at q2; cases q2
      | int _ => rw [q3] at q2; cases q2
      | str _ => rw [q3] at q2; cases q2
      | dct _ => rw [q3] at q2; cases q2
      | obj _ _ _ => rw [q3] at q2; cases q2
    · cases hm
  · cases hm⟩
end
end BM

set_option Elab.async false
set_option linter.all false
set_option maxRecDepth 100000
set_option maxHeartbeats 4000000
/-! BM, part 30: own classes: o.f, self.f = e, C(e, ..), o.m(e, ..). -/
namespace BM
open PySem PySem.Spec PyProof.Rows L2

/-! ### words -/
def mFld (C : Addr) (f : Str) (m : M O) : M O := fun s => match m s with
  | some (o, s1) => (match o.toD with
    | .obj C' ns xs => if C' = C then (match (ns.zip xs).lookup f with
      | some d => some (.d d, s1)
      | none => none) else none
    | _ => none)
  | none => none
def sFldP (i : Nat) (C : Addr) (f : Str) (me : M O) : M Fl := fun s => match me s with
  | some (y, s1) => (match s1[i]? with
    | some (some (.obj C' ns os)) => if C' = C ∧ f ∉ ns ∧ ns.length = os.length ∧ ns.length < 1000 then some (.nx, s1.set i (some (.obj C' (ns ++ [f]) (os ++ [y])))) else none
    | _ => none)
  | none => none
/-- an instance of C whose own fields do not hide m -/
def mObj (C : Addr) (f : Str) (m : M O) : M O := fun s => match m s with
  | some (o, s1) => (match o.toD with
    | .obj C' ns xs => if C' = C ∧ f ∉ ns then some (.d (.obj C' ns xs), s1) else none
    | _ => none)
  | none => none
def mMake (C : Addr) (f : List O → Option (O × List O)) (ms : List (M Ar)) : M O := mbind (mars ms) fun ars => mbind (takeArs ars) fun os => fun s => match f (.obj C [] [] :: os) with
  | some (.d .non, o :: outs) => (match giveArs ars outs s with
    | some (_, s') => some (o, s')
    | none => none)
  | _ => none

/-! ### what is held -/
section
variable {K : PySem.W.Frag} {H : Hp} {L : List It}
theorem St.read_obj {C : Addr} {ns : List Str} {ds : List D} {v : V} (h : St K H (.rep (.d (.obj C ns ds)) v :: L)) : ∃ a dx vs, v = .ref a ∧ H a = some (.ins C dx (ns.zip vs)) ∧ ns.length = vs.length ∧ ds.length = vs.length ∧ St K H (reps (leaf ds) vs ++ (.rep (.d (.obj C ns ds)) v :: L)) := by
  obtain ⟨G, fp, s, ⟨f1, f2, e, h2, h3⟩, nd, hg⟩ := h
  have h2' : Own K G H (.d (.obj C ns ds)) v f1 := h2
  have h2s := h2'
  rw [Own, Rep] at h2'
  obtain ⟨e1, a, dx, vs, h4, h5, h5', h6, h7⟩ := h2'
  subst e1 e
  exact ⟨a, dx, vs, h4, s _ _ h5, h6, h7.length, G, _, s, Sep.app (leaf_reps h7) ⟨[], _, rfl, h2s, h3⟩, nd, hg⟩
theorem St.open_obj {C : Addr} {ns : List Str} {os : List O} {v : V} (h : St K H (.rep (.obj C ns os) v :: L)) : ∃ a dx vs, v = .ref a ∧ ns.length = vs.length ∧ os.length = vs.length ∧ St K H (.raw a (.ins C dx (ns.zip vs)) :: .raw dx (.own a) :: (reps os vs ++ L)) := by
  obtain ⟨G, fp, s, ⟨f1, f2, e, h2, h3⟩, nd, hg⟩ := h
  have h2' : Own K G H (.obj C ns os) v f1 := h2
  rw [Own] at h2'
  obtain ⟨a, dx, vs, fq, h1, e2, h4, h5, h6, h7⟩ := h2'
  subst e2 e
  exact ⟨a, dx, vs, h1, h6, Owns.length h7, G, _, s, ⟨[a], dx :: (fq ++ f2), rfl, ⟨rfl, h4⟩, [dx], fq ++ f2, rfl, ⟨rfl, h5⟩, Sep.app (sep_reps h7) h3⟩, nd, hg⟩
theorem St.close_obj {C a dx : Addr} {ns : List Str} {os : List O} {vs : List V} (hn : ns.length = vs.length) (hl : os.length = vs.length) (h : St K H (.raw a (.ins C dx (ns.zip vs)) :: .raw dx (.own a) :: (reps os vs ++ L))) : St K H (.rep (.obj C ns os) (.ref a) :: L) := by
  obtain ⟨G, fp, s, ⟨f1, f2, e, ⟨e1, h2⟩, f3, f4, e3, ⟨e4, h4⟩, h5⟩, nd, hg⟩ := h
  obtain ⟨g1, g2, e2, q1, q2⟩ := Sep.split h5
  subst e1 e4 e2 e3 e
  refine ⟨G, _, s, ⟨a :: dx :: g1, g2, rfl, ?_, q2⟩, nd, hg⟩
  show Own K G H (.obj C ns os) (.ref a) (a :: dx :: g1)
  rw [Own]
  exact ⟨a, dx, vs, g1, rfl, rfl, h2, h4, hn, owns_reps hl q1⟩
theorem lookup_zip {f : Str} : ∀ {ns : List Str} {ds : List D} {vs : List V} {d : D}, ns.length = vs.length → ds.length = vs.length → (ns.zip ds).lookup f = some d → ∃ v, (ns.zip vs).lookup f = some v ∧ .rep (.d d) v ∈ reps (leaf ds) vs
  | n :: ns, x :: ds, v :: vs, d, h1, h2, h => by
    rw [List.zip_cons_cons, List.lookup_cons] at h
    rw [List.zip_cons_cons, List.lookup_cons]
    by_cases e : (f == n) = true
    · simp only [e] at h ⊢
      have e' := Option.some.inj h
      subst e'
      exact ⟨v, rfl, List.mem_cons_self⟩
    · have e : (f == n) = false := by simpa using e
      simp only [e] at h ⊢
      obtain ⟨w, g1, g2⟩ := lookup_zip (by simpa using h1) (by simpa using h2) h
      exact ⟨w, g1, List.mem_cons_of_mem _ g2⟩
  | [], _, _, d, _, _, h => by simp at h
  | _ :: _, [], _, d, _, _, h => by simp at h
  | _ :: _, _ :: _, [], d, h1, _, _ => by cases h1
theorem lookup_no {f : Str} : ∀ {ns : List Str} {vs : List V}, f ∉ ns → (ns.zip vs).lookup f = none
  | [], _, _ => by simp
  | _ :: _, [], _ => by simp
  | n :: ns, v :: vs, h => by
    rw [List.zip_cons_cons, List.lookup_cons]
    have e : (f == n) = false := beq_eq_false_iff_ne.mpr fun z => h (z ▸ List.mem_cons_self)
    simp only [e]
    exact lookup_no fun z => h (List.mem_cons_of_mem _ z)
theorem putF_new {f : Str} {y : V} : ∀ {ns : List Str} {vs : List V}, f ∉ ns → ns.length = vs.length → putF f y (ns.zip vs) = (ns ++ [f]).zip (vs ++ [y])
  | [], [], _, _ => rfl
  | [], _ :: _, _, h => by cases h
  | _ :: _, [], _, h => by cases h
  | n :: ns, v :: vs, h, hl => by
    show (if n = f then (n, y) :: ns.zip vs else (n, v) :: putF f y (ns.zip vs)) = _
    rw [if_neg (fun z => h (by rw [z]; exact List.mem_cons_self) : ¬ n = f), putF_new (fun z => h (List.mem_cons_of_mem _ z)) (by simpa using hl)]
    rfl
end
/-! ### rules of the layer for FnG -/
section
variable {X : Cx} {cfg : Cfg} {k : Nat} {f C : Addr} {fd : FuncData} {ps : List Str} {sp : Sp} {x m : Str} {p pos apos : Pos} {e o : Expr} {es : List Expr} {ta : TE} {t : TA}
theorem runG' (a : At X cfg) {pins : List (Addr × Obj)} {σ : L2.St} {H : Hp} {s : Shared} {Q : VK} {us : List Value} {zs : List V} (F : FnG cfg k f fd ps sp) (hr : Room k X.A) (I : Inv X pins σ H s) (hb : Binds cfg.K fd ps []) (r : Vals zs us) (h : sp zs H Q E0) :
    wpAny (model X.prog X.w) X.A (call (.ref f) us) (EP X pins σ Q) X.xe s := by
  have hl : us.length = ps.length := by rw [← r.length]; exact F.arity _ _ _ _ h
  have z := hb s us (by have := I.kIn; rw [a.hK] at this; exact this) (by rw [List.append_nil]; exact hl)
  rw [List.append_nil] at z
  exact runG a (args := ⟨us, []⟩) F hr I z r h
theorem pe_methG {pl : Sem Bool} (a : At X cfg) (he : PE X o ta) (c : Cls X.K C) (hm : Meth X.K C m f) (F : FnG cfg k f fd ps sp) (hr : Room k X.A) (hb : Binds cfg.K fd ps []) (ha : PA X (e :: es) t)
    (hst : starEach (e :: es) X.env = (false, eval e X.env) :: starEach es X.env) (hpl : (backTo pos (starEach es X.env)).any (·.1) = false)
    (ht : eval (.Call (.Attribute o m apos) (e :: es) [] pos) X.env = (do
      let ov ← eval o X.env
      standAt apos.atName
      let (f, first) ← holding [ov] (getMethod ov m pl)
      callWith pos f first (backTo pos (starEach (e :: es) X.env)) (backToKw pos (keywordEach [] X.env)))) :
    PE X (.Call (.Attribute o m apos) (e :: es) [] pos) (tMeth C m sp [] E0 ta t) := by
  refine ⟨fun pins s σ H Q I h => ?_⟩
  refine PySem.W.methodCall_KW (pl := pl) (thn (he.run pins s σ H _ I h) fun u s1 ⟨x, H1, I1, rx, ad, dx, fs, ex, ea, l, q⟩ => ?_) ht
  subst ex
  obtain rfl : u = Value.ref ad := rx
  refine getmeth_ok I1 ea c hm l ?_
  refine PySem.W.callWith_K (first := [.ref ad]) (h₀ := X.base) I1.ok.mod.kin hm.kp (thn (ha.run pos pins s1 σ H1 _ I1 q) fun us s2 ⟨vs, H2, I2, r, q2⟩ => ⟨I2.kIn, ?_⟩) hst hpl
  have q2 : sp (V.ref ad :: (vs ++ [])) H2 Q E0 := q2
  rw [List.append_nil] at q2
  exact runG' a (us := .ref ad :: us) (zs := .ref ad :: vs) F hr I2 hb (.cons rfl r) q2
theorem pe_methG0 {pl : Sem Bool} (a : At X cfg) (he : PE X o ta) (c : Cls X.K C) (hm : Meth X.K C m f) (F : FnG cfg k f fd ps sp) (hr : Room k X.A) (hb : Binds cfg.K fd ps [])
    (ht : eval (.Call (.Attribute o m apos) [] [] pos) X.env = (do
      let ov ← eval o X.env
      standAt apos.atName
      let (f, first) ← holding [ov] (getMethod ov m pl)
      callWith pos f first (backTo pos (starEach [] X.env)) (backToKw pos (keywordEach [] X.env)))) :
    PE X (.Call (.Attribute o m apos) [] [] pos) (tMeth C m sp [] E0 ta tNil) := by
  refine ⟨fun pins s σ H Q I h => ?_⟩
  refine PySem.W.methodCall_KW (pl := pl) (thn (he.run pins s σ H _ I h) fun u s1 ⟨x, H1, I1, rx, ad, dx, fs, ex, ea, l, q⟩ => ?_) ht
  subst ex
  obtain rfl : u = Value.ref ad := rx
  refine getmeth_ok I1 ea c hm l ?_
  exact PySem.W.callWith_K0 (first := [.ref ad]) I1.kIn hm.kp (runG' a (us := [.ref ad]) (zs := [.ref ad]) F hr I1 hb (.cons rfl .nil) q)
theorem run_makeG (a : At X cfg) {pins : List (Addr × Obj)} {σ : L2.St} {H : Hp} {s : Shared} {Q : VK} {us : List Value} {vs : List V} (M : Mk X.K C f) (F : FnG cfg k f fd ps sp) (hr : Room (k + 1) X.A) (hb : Binds cfg.K fd ps [])
    (I : Inv X pins σ H s) (r : Vals vs us)
    (h : ∀ x dx, H x = none → H dx = none → dx ≠ x → sp (.ref x :: vs) (upd (upd H dx (.own x)) x (.ins C dx [])) (fun v H2 => v = .non ∧ Q (.ref x) H2) E0) :
    wpAny (model X.prog X.w) X.A (call (.ref C) us) (EP X pins σ Q) X.xe s := by
  have hq := h (s.heap.objs.size + 1) s.heap.objs.size (I.hok.fresh (Nat.le_succ _)) (I.hok.fresh (Nat.le_refl _)) (Nat.ne_of_lt (Nat.lt_succ_self _))
  have I2 := Inv.made (C := C) I
  have r2 : Vals (V.ref (s.heap.objs.size + 1) :: vs) (Value.ref (s.heap.objs.size + 1) :: us) := .cons rfl r
  have hl : (Value.ref (s.heap.objs.size + 1) :: us).length = ps.length := by
    rw [← r2.length]; exact F.arity _ _ _ _ hq
  have e0 : Env0 cfg.P cfg.w cfg.K cfg.mg cfg.base (X.A.under (.builtin "type.__call__" ⟨.ref C :: us, []⟩)) X.stack { s with heap := (s.heap.push PySem.W.emptyDict).push (PySem.W.instObj C s.heap.objs.size) } (upd (upd H s.heap.objs.size (.own (s.heap.objs.size + 1))) (s.heap.objs.size + 1) (.ins C s.heap.objs.size [])) := by
    have z := I2.env0.make C us []
    rw [a.hP, a.hw, a.hK, a.hmg, a.hbase] at z
    exact z
  have z := hb { s with heap := (s.heap.push PySem.W.emptyDict).push (PySem.W.instObj C s.heap.objs.size) } (Value.ref (s.heap.objs.size + 1) :: us) (by have := I2.kIn; rw [a.hK] at this; exact this) (by rw [List.append_nil]; exact hl)
  rw [List.append_nil] at z
  have w := F.go _ X.stack _ _ ⟨Value.ref (s.heap.objs.size + 1) :: us, []⟩ (Value.ref (s.heap.objs.size + 1) :: us) _ _ E0 (hr.make C us []) (by exact a.gd) e0 z r2 hq
  rw [← a.hP, ← a.hw] at w
  refine wpAny_call (make_map (f := f) I.kIn M.makes M.init (beq_iff_eq.mp M.fn) (codeAny_mono w fun r s' hq' => ?_))
  cases r with
  | error e => exact hq'.elim
  | ok fl =>
    cases fl with
    | ret u =>
      obtain ⟨v, H', I3, rv, ev, q3⟩ := I2.after hq'
      subst ev
      exact ⟨rv, ⟨V.ref (s.heap.objs.size + 1), H', I3, rfl, q3⟩⟩
    | next => exact False.elim hq'
    | brk => exact False.elim hq'
    | cont => exact False.elim hq'
theorem pe_makeG (a : At X cfg) (M : Mk X.K C f) (F : FnG cfg k f fd ps sp) (hr : Room (k + 1) X.A) (hg : Gl X x) (hm : X.mg x = some (.ref C)) (hb : Binds cfg.K fd ps [])
    (ha : PA X (e :: es) t) (hdb : (x == ("__debug__" : Str)) = false) (he : starEach (e :: es) X.env = (false, eval e X.env) :: starEach es X.env) (hpl : (backTo pos (starEach es X.env)).any (·.1) = false) :
    PE X (.Call (.Name x p) (e :: es) [] pos) (tMake C sp [] E0 t) := by
  refine ⟨fun pins s σ H Q I h => ?_⟩
  refine wpAny_Call_Name_kw (ld_glob I hg hm ?_ hdb)
  refine PySem.W.callWith_K (h₀ := X.base) I.ok.mod.kin M.kp (thn (ha.run pos pins s σ H _ I h) fun us s1 ⟨vs, H1, I1, r, q⟩ => ⟨I1.kIn, ?_⟩) he hpl
  exact run_makeG a M F hr hb I1 r fun x dx h1 h2 h3 => by
    have z := q x dx h1 h2 h3
    rw [List.append_nil] at z
    exact z
end
/-! ### judgements -/
/-- the def m of the class C, at fa -/
structure FnM (cfg : Cfg) (k : Nat) (C : Addr) (m : Str) (fa : Addr) (fd : FuncData) (ps : List Str) (np : Nat) (f : List O → Option (O × List O)) : Prop where
  cl : Cls cfg.K C
  mt : Meth cfg.K C m fa
  ok : FnG cfg k fa fd ps (spOf cfg.K np f)
  len : ∀ os r outs, f os = some (r, outs) → os.length = np → outs.length = np
/-- the class x of the module, at C, with its __init__ at fa -/
structure ClD (cfg : Cfg) (k : Nat) (x : Str) (C fa : Addr) (fd : FuncData) (ps : List Str) (np : Nat) (f : List O → Option (O × List O)) : Prop where
  at_ : cfg.mg x = some (.ref C)
  mks : Mk cfg.K C fa
  ok : FnG cfg k fa fd ps (spOf cfg.K np f)
  len : ∀ os r outs, f os = some (r, outs) → os.length = np → outs.length = np
section
variable {Γ : Gm} {e o : Expr} {es : List Expr} {x f : Str} {p pos pos' apos : Pos} {i k np : Nat} {C fa : Addr} {fd : FuncData} {ps : List Str} {m mo : M O} {ms : List (M Ar)} {fn : List O → Option (O × List O)}
theorem sd_fld (he : Sd Γ e m) (c : Cls Γ.cfg.K C) (n : NoAttr Γ.cfg.K C f) (hb : ∀ env : PySem.Env, attributeBase e f env (eval e env) = eval e env := by intro _; rfl) : Sd Γ (.Attribute e f pos) (mFld C f m) := ⟨fun X ok env o env' hm σ H T hr Q q => by
  unfold mFld at hm
  split at hm
  · rename_i o1 s1 h1
    split at hm
    · rename_i C' ns xs h2
      by_cases hc : C' = C
      · rw [if_pos hc] at hm
        subst hc
        split at hm
        · rename_i d h3
          have e1 := Option.some.inj hm
          injection e1 with e1 e2
          subst e1 e2
          refine ⟨_, pe_fld (pe_best X e) (hb X.env), ?_⟩
          refine he.run X ok env o1 s1 h1 σ H T hr _ fun v H1 r1 => ?_
          have r1 := r1.freeze
          rw [h2] at r1
          obtain ⟨L, hE, hS⟩ := r1
          obtain ⟨a, dx, vs, g1, g2, g3, g4, g5⟩ := St.read_obj (L := T ++ L) hS
          subst g1
          obtain ⟨w, g6, g7⟩ := lookup_zip g3 g4 h3
          refine ⟨a, C', dx, _, w, rfl, g2, by rw [ok.hK]; exact c, by rw [ok.hK]; exact n, g6, q w H1 ⟨L, hE, ?_⟩⟩
          have z := St.pick g5 g7
          exact z.sub (.cons₂ _ (.cons _ (.refl _)))
        · cases hm
      · rw [if_neg hc] at hm; cases hm
    · cases hm
  · cases hm⟩
theorem ss_fldP (i : Nat) (hv : Sd Γ e m) (c : Cls Γ.cfg.K C) (n : NoAttr Γ.cfg.K C f) (hN : Γ.N[i]? = some x := by rfl) (hvis : Γ.vis x = true := by kernel_rfl)
    (hs : ∀ env : PySem.Env, env.scope.names = Γ.sc → swapsWith e (some (.Attribute (.Name x p) f pos')) pos.line env = pure false := by intro _ _; rfl)
    (hd : (x == ("__debug__" : Str)) = false := by kernel_rfl) (hcd : (x == ("__classdict__" : Str)) = false := by kernel_rfl) : Ss Γ (.Assign [.Attribute (.Name x p) f pos'] e pos) (sFldP i C f m) [] := ⟨fun X ok env fl env' hm σ H T hr D q => by
  unfold sFldP at hm
  split at hm
  · rename_i y s1 h1
    split at hm
    · rename_i C' ns os h2
      by_cases hz : C' = C ∧ f ∉ ns ∧ ns.length = os.length ∧ ns.length < 1000
      · rw [if_pos hz] at hm
        have e1 := Option.some.inj hm
        injection e1 with e1 e2
        subst e1 e2
        obtain ⟨hc, h3, h4, h5⟩ := hz
        subst hc
        refine ⟨_, ps_fld (pe_var (i := i) (by rw [ok.hN]; exact hN) (ok.vis hvis) hd hcd) (pe_best X e) (hs X.env ok.hsc), ?_⟩
        refine hv.run X ok env y s1 h1 σ H T hr _ fun w H1 r1 => ?_
        obtain ⟨v, g1, r2⟩ := r1.take h2
        refine ⟨v, g1, ?_⟩
        obtain ⟨L, hE, hS⟩ := r2
        obtain ⟨a, dx, vs, e1, l1, l2, s2⟩ := St.open_obj (L := .rep y w :: T ++ L) hS
        subst e1
        refine ⟨a, C', dx, ns.zip vs, rfl, s2.raw_at, by rw [ok.hK]; exact c, by rw [ok.hK]; exact n, ?_, ?_⟩
        · rw [List.length_zip, ← l1, Nat.min_self]; exact h5
        rw [putF_new h3 l1]
        refine q σ _ ?_ (Kp.refl _ _)
        have s3 := s2.write (u' := .ins C' dx ((ns ++ [f]).zip (vs ++ [w])))
        have s4 : St Γ.cfg.K (upd H1 a (.ins C' dx ((ns ++ [f]).zip (vs ++ [w])))) (.rep (.obj C' (ns ++ [f]) (os ++ [y])) (.ref a) :: (T ++ L)) := by
          refine St.close_obj (dx := dx) (vs := vs ++ [w]) (by simp [l1]) (by simp [l2]) (s3.perm (.cons _ (.cons _ ?_)))
          rw [reps_snoc _ _ _ _ l2, List.append_assoc]
          exact .refl _
        have r3 : RS Γ.cfg.K _ _ σ T := RS.putSame (T := T) ⟨L, hE, s4⟩ g1
        rw [List.set_set] at r3
        exact r3
      · rw [if_neg hz] at hm; cases hm
    · cases hm
  · cases hm⟩
theorem sd_obj_its {K : PySem.W.Frag} {H : Hp} {env : Env} {σ : L2.St} {T : List It} {ns : List Str} {xs : List D} {v : V} (h : RS K H env σ (.rep (.d (.obj C ns xs)) v :: T)) : ∃ a dx vs, v = .ref a ∧ H a = some (.ins C dx (ns.zip vs)) := by
  obtain ⟨L, hE, hS⟩ := h
  obtain ⟨a, dx, vs, g1, g2, _⟩ := St.read_obj (L := T ++ L) hS
  exact ⟨a, dx, vs, g1, g2⟩
theorem mObj_some {env : Env} {r : O × Env} (h : mObj C f mo env = some r) : ∃ o1 ns xs, mo env = some (o1, r.2) ∧ o1.toD = .obj C ns xs ∧ f ∉ ns ∧ r.1 = .d (.obj C ns xs) := by
  unfold mObj at h
  split at h
  · rename_i o1 s1 h1
    split at h
    · rename_i C' ns xs h2
      by_cases hc : C' = C ∧ f ∉ ns
      · rw [if_pos hc] at h
        have e1 := Option.some.inj h
        subst e1
        obtain ⟨hc1, hc2⟩ := hc
        subst hc1
        exact ⟨o1, ns, xs, h1, h2, hc2, rfl⟩
      · rw [if_neg hc] at h; cases h
    · cases h
  · cases h
theorem mars_cons {A : M Ar} {env s1 : Env} {ars : List Ar} (h : mars (A :: ms) env = some (ars, s1)) : ∃ a s2 l, A env = some (a, s2) ∧ mars ms s2 = some (l, s1) ∧ ars = a :: l := by
  obtain ⟨a, s2, h1, h2⟩ := mbind_some (show mbind A (fun a => mbind (mars ms) fun l => mpure (a :: l)) env = _ from h)
  obtain ⟨l, s3, h3, h4⟩ := mbind_some h2
  have e1 := Option.some.inj (show some (a :: l, s3) = some (ars, s1) from h4)
  injection e1 with e1 e2
  subst e1 e2
  exact ⟨a, s2, l, h1, h3, rfl⟩
theorem aval_some {env s1 : Env} {a : Ar} (h : aval m env = some (a, s1)) : ∃ o, m env = some (o, s1) ∧ a = .val o := by
  unfold aval at h
  split at h
  · rename_i o s' h1
    have e1 := Option.some.inj h
    injection e1 with e1 e2
    subst e1 e2
    exact ⟨o, h1, rfl⟩
  · cases h
theorem sd_meth (pl : PySem.Env → Sem Bool) (F : FnM Γ.cfg k C f fa fd ps np fn) (hb : Binds Γ.cfg.K fd ps []) (ho : Sd Γ o mo) (hn : NoStars (e :: es)) (ha : Sars Γ (e :: es) ms) (hl : (e :: es).length + 1 = np := by rfl) (hk : k ≤ Γ.n := by exact Nat.le_of_ble_eq_true rfl)
    (ht : ∀ env : PySem.Env, eval (.Call (.Attribute o f apos) (e :: es) [] pos) env = (do
      let ov ← eval o env
      standAt apos.atName
      let (f, first) ← holding [ov] (getMethod ov f (pl env))
      callWith pos f first (backTo pos (starEach (e :: es) env)) (backToKw pos (keywordEach [] env))) := by intro _; rfl) :
    Sd Γ (.Call (.Attribute o f apos) (e :: es) [] pos) (mCall fn (aval (mObj C f mo) :: ms)) := ⟨fun X ok env o' env' hm σ H T hr Q q => by
  obtain ⟨ars, s1, os, s2, o', outs, s3, h1, h2, h3, h4, e1⟩ := mCall_some hm
  injection e1 with e1 e2
  subst e1 e2
  obtain ⟨a0, s0, l, g1, g2, g3⟩ := mars_cons h1
  subst g3
  obtain ⟨o0, g4, g5⟩ := aval_some g1
  subst g5
  obtain ⟨o1, ns, xs, g6, g7, g8, g9⟩ := mObj_some g4
  have g9 : o0 = .d (.obj C ns xs) := g9
  subst g9
  refine ⟨_, pe_methG (pl := pl X.env) ok.at_ (pe_best X o) (by rw [ok.hK]; exact F.cl) (by rw [ok.hK]; exact F.mt) F.ok (ok.room.mono hk) hb (pa_of hn) (ns_head hn _) (backTo_plain (ns_tail hn)) (ht X.env), ?_⟩
  refine ho.run X ok env o1 s0 g6 σ H T hr _ fun v H1 r1 => ?_
  have r1 := r1.freeze
  rw [g7] at r1
  obtain ⟨a, dx, vs0, e1, e2⟩ := sd_obj_its r1
  subst e1
  refine ⟨a, dx, _, rfl, e2, lookup_no g8, ?_⟩
  have w := ha.run X ok s0 l s1 g2 σ H1 _ r1 (fun vs H' => RS Γ.cfg.K H' s1 σ ((List.zipWith Ar.its l vs).flatten ++ (.rep (.d (.obj C ns xs)) (.ref a) :: T)) ∧ l.length = vs.length ∧ (∀ p ∈ l.zip vs, p.1.at σ p.2)) fun vs H' r l a => ⟨r, l, a⟩
  refine wl_len.wl_mono (wl_len w) fun vs H' ⟨hv, r, l1, a1⟩ => ?_
  rw [List.append_nil]
  have r2 : RS Γ.cfg.K H' s1 σ ((List.zipWith Ar.its (.val (.d (.obj C ns xs)) :: l) (.ref a :: vs)).flatten ++ T) := r.perm (by
    show List.Perm _ (.rep (.d (.obj C ns xs)) (.ref a) :: ((List.zipWith Ar.its l vs).flatten ++ T))
    exact List.perm_middle)
  have at2 : ∀ p ∈ (Ar.val (.d (.obj C ns xs)) :: l).zip (V.ref a :: vs), p.1.at σ p.2 := fun p hp => by
    rcases List.mem_cons.mp hp with rfl | hp
    · trivial
    · exact a1 p hp
  have l2 : (Ar.val (.d (.obj C ns xs)) :: l).length = (V.ref a :: vs).length := by simp [l1]
  have hos : os.length = (V.ref a :: vs).length := (take_rs h2 l2 at2 r2).1
  have hnp : (V.ref a :: vs).length = np := by rw [List.length_cons, hv]; exact hl
  exact call_read (cfg := Γ.cfg) h2 h3 h4 l2 at2 r2 hnp (F.len _ _ _ h3 (hos.trans hnp)) q⟩
theorem mMake_some {env : Env} {r : O × Env} (h : mMake C fn ms env = some r) : ∃ ars s1 os s2 o outs s3, mars ms env = some (ars, s1) ∧ takeArs ars s1 = some (os, s2) ∧ fn (.obj C [] [] :: os) = some (.d .non, o :: outs) ∧ giveArs ars outs s2 = some ((), s3) ∧ r = (o, s3) := by
  obtain ⟨ars, s1, h1, h2⟩ := mbind_some h
  obtain ⟨os, s2, h3, h4⟩ := mbind_some h2
  split at h4
  · rename_i o outs q
    split at h4
    · rename_i u s3 q2
      exact ⟨ars, s1, os, s2, o, outs, s3, h1, h3, q, q2, (Option.some.inj h4).symm⟩
    · cases h4
  · cases h4
theorem sd_make (F : ClD Γ.cfg k x C fa fd ps np fn) (hb : Binds Γ.cfg.K fd ps []) (hn : NoStars (e :: es)) (ha : Sars Γ (e :: es) ms) (hl : (e :: es).length + 1 = np := by rfl) (hk : k + 1 ≤ Γ.n := by exact Nat.le_of_ble_eq_true rfl) (hg : Γ.glo x = true := by kernel_rfl) (hdb : (x == ("__debug__" : Str)) = false := by kernel_rfl) :
    Sd Γ (.Call (.Name x p) (e :: es) [] pos) (mMake C fn ms) := ⟨fun X ok env ov env' hm σ H T hr Q q => by
  obtain ⟨ars, s1, os, s2, o', outs, s3, h1, h2, h3, h4, e1⟩ := mMake_some hm
  injection e1 with e1 e2
  subst e1 e2
  refine ⟨_, pe_makeG ok.at_ (by rw [ok.hK]; exact F.mks) F.ok (ok.room.mono hk) (ok.glo hg) (by rw [ok.hmg]; exact F.at_) hb (pa_of hn) hdb (ns_head hn _) (backTo_plain (ns_tail hn)), ?_⟩
  have w := ha.run X ok env ars s1 h1 σ H T hr (fun vs H' => RS Γ.cfg.K H' s1 σ ((List.zipWith Ar.its ars vs).flatten ++ T) ∧ ars.length = vs.length ∧ (∀ p ∈ ars.zip vs, p.1.at σ p.2)) fun vs H' r l a => ⟨r, l, a⟩
  refine wl_len.wl_mono (wl_len w) fun vs H' ⟨hv, r, l, a⟩ => ?_
  intro xa dx hx hdx hne
  rw [List.append_nil]
  obtain ⟨lo, L, hE, hS⟩ := take_rs h2 l a r
  have hS1 := St.alloc (u := .own xa) hdx hS
  have hx1 : (upd H' dx (.own xa)) xa = none := by rw [upd_ne (Ne.symm hne)]; exact hx
  have hS2 := St.alloc (u := .ins C dx (([] : List Str).zip ([] : List V))) hx1 hS1
  have hS3 : St Γ.cfg.K _ (.rep (.obj C [] []) (.ref xa) :: (reps os vs ++ T ++ L)) := St.close_obj (ns := []) (os := []) (vs := []) (L := reps os vs ++ T ++ L) rfl rfl hS2
  have np1 : os.length + 1 = np := by rw [lo, hv]; exact hl
  have np2 : (ov :: outs).length = np := F.len _ _ _ h3 np1
  refine ⟨T ++ L, .obj C [] [] :: os,   .d .non, ov :: outs, h3, np1, by rw [List.length_cons, hv]; exact hl, np2, ?_, fun v H2 hS' => ?_⟩
  · show St Γ.cfg.K _ (.rep (.obj C [] []) (.ref xa) :: (reps os vs ++ (T ++ L)))
    rw [← List.append_assoc]; exact hS3
  · refine ⟨hS'.nonv, q _ _ ?_⟩
    have s4 : St Γ.cfg.K H2 (.rep ov (.ref xa) :: (reps outs vs ++ (T ++ L))) := hS'.drop
    have r3 : RS Γ.cfg.K H2 s2 σ ([.rep ov (.ref xa)] ++ (reps outs vs ++ T)) := ⟨L, hE, by
      rw [← List.append_assoc] at s4
      exact s4⟩
    exact give_rs h4 l a r3⟩
end
end BM

set_option Elab.async false
set_option linter.all false
set_option maxRecDepth 100000
set_option maxHeartbeats 4000000
/-! BM, part 31: text * int; enumerate of a list or a tuple. -/
namespace BM
open PySem PySem.Spec PyProof.Rows L2
theorem sw_cell {elt : Expr} {gens : List Comprehension} {sc : Scope} {pos tp : Pos} {t : Str} {line : Nat} {env : PySem.Env} {nm : List (Str × NameKind)} (he : env.scope.names = nm) (h : (nm.lookup t == some .local) = false) :
    swapsWith (.ListComp elt gens sc pos) (some (.Name t tp)) line env = pure false := by
  have e : (env.kindOf t == some .local) = false := by
    show (env.scope.names.lookup t == some .local) = false
    rw [he]; exact h
  show (pure (env.blockKind == .function && env.kindOf t == some .local && tp.line == pos.line && !(sc.names.any fun (n, k) => n == t && (k == .local || k == .cell))) : Sem Bool) = pure false
  rw [e]
  simp
def locB (nm : List (Str × NameKind)) (line : Nat) : Expr → Option Str
  | .Name id pos => if nm.lookup id == some .local && pos.line == line then some id else none
  | _ => none
theorem sw_names {ts vs : List Expr} {k k2 : Nat} {p p2 : Pos} {env : PySem.Env} {nm : List (Str × NameKind)} (he : env.scope.names = nm) (h : ((ts.filterMap (locB nm ((ts.head?.map (·.pos.line)).getD 0))).length != ts.length) = true) : swappedStores [.Tuple ts k p] (.Tuple vs k2 p2) env = pure none := by
  subst he
  unfold swappedStores
  simp only
  split
  · rfl
  · split
    · rfl
    · rename_i h1 h2
      split
      · rfl
      · rename_i h3
        exfalso
        refine h3 ?_
        rw [Bool.or_eq_true]
        refine .inl ?_
        refine Eq.trans (congrArg (fun l : List Str => (l.length != ts.length)) ?_) h
        exact congrArg (fun f => List.filterMap f ts) (funext fun x => by cases x <;> rfl)
theorem sw_fold {ts vs : List Expr} {k k2 : Nat} {p p2 : Pos} {env : PySem.Env} (h : vs.all (foldedForSure 8) = true) : swappedStores [.Tuple ts k p] (.Tuple vs k2 p2) env = pure none := by
  unfold swappedStores
  simp only [h, if_true]
  split
  · rfl
  · split
    · rfl
    · split
      · rfl
      · rfl
def repS (x : Str) (n : Nat) : Str := ⟨(List.replicate n x.cps).foldl (· ++ ·) #[]⟩
def mulS (x : Str) (k : Int) : Str := if k < 1 then Str.empty else if (k == 1 || x.length == 0) = true then x else repS x k.toNat
def fMulX : D → D → Option O
  | .str x, .int k => if 0 ≤ k ∧ k ≤ 100000 ∧ x.length ≤ 100 then some (.d (.str (mulS x k))) else none
  | a, b => fMul a b
theorem repS_fold (a : Array Nat) : ∀ (n : Nat) (acc : Array Nat), ((List.replicate n a).foldl (· ++ ·) acc).size = acc.size + n * a.size
  | 0, acc => by simp
  | n + 1, acc => by
    rw [List.replicate_succ, List.foldl_cons, repS_fold a n, Array.size_append, Nat.succ_mul]
    omega
theorem repS_len (x : Str) (n : Nat) : (repS x n).length = n * x.length := by
  show ((List.replicate n x.cps).foldl (· ++ ·) #[]).size = n * x.cps.size
  rw [repS_fold]; simp
def rMulS : R2 := fun x y H Q => ∃ (z : Str) (k : Int), x = .str z ∧ y = .int k ∧ 0 ≤ k ∧ k ≤ 100000 ∧ z.length ≤ 100 ∧ Q (.str (mulS z k)) H
theorem op_mulS {X : Cx} : OpR X (binaryOp .Mult) rMulS := by
  rintro pins s σ H x y v u Q I rx ry ⟨z, k, rfl, rfl, h1, h2, h3, q⟩
  obtain ⟨t, rfl⟩ := (show ∃ t, v = Value.str z t from rx)
  obtain ⟨t', rfl⟩ := (show ∃ t', u = Value.int k t' from ry)
  refine P.mul_str ?_ (fun hk _ => ?_) (fun hk _ => ?_) ?_
  · rw [decide_eq_false (by omega), decide_eq_false (by omega)]; rfl
  · intro h4
    have h5 : (92233720368547 : Int) ≤ (2 ^ 63 - 1) / k := by
      rw [Int.le_ediv_iff_mul_le (by omega)]
      have : (92233720368547 : Int) * k ≤ 92233720368547 * 100000 := by omega
      omega
    omega
  · have h4 : z.length * k.toNat ≤ 100 * 100000 := Nat.mul_le_mul h3 (by omega)
    unfold Builtin.Str.tooLong
    have := sizeLine_eq
    simp
    omega
  · unfold mulS at q
    split
    · rename_i hk
      rw [if_pos hk] at q
      exact ⟨by decide, V.str _, H, I.tok _, ⟨_, rfl⟩, q⟩
    · rename_i hk
      rw [if_neg hk] at q
      split
      · rename_i hj
        rw [if_pos hj] at q
        exact ⟨V.str _, H, I, ⟨_, rfl⟩, q⟩
      · rename_i hj
        rw [if_neg hj] at q
        exact ⟨by
          have h6 := repS_len z k.toNat
          have h7 : k.toNat * z.length ≤ 100000 * 100 := Nat.mul_le_mul (by omega) h3
          have := sizeLine_eq
          show (repS z k.toNat).length ≤ sizeLine
          omega, V.str _, H, I.tok _, ⟨_, rfl⟩, q⟩
section
variable {Γ : Gm} {e tg : Expr} {m : M O} {p pos tpos : Pos} {elts : List Expr} {kk : Nat}
theorem ok_mulX : OkB Γ (binaryOp .Mult) (w2 fMulX) := okB_of fun X ok H L x y d e o hS lx ly hF Q q => by
  unfold fMulX at hF
  split at hF
  · rename_i z k
    by_cases hz : 0 ≤ k ∧ k ≤ 100000 ∧ z.length ≤ 100
    · rw [if_pos hz] at hF
      have e1 := Option.some.inj hF
      subst e1
      exact ⟨_, op_mulS, z, k, lx.str hS, ly.int hS, hz.1, hz.2.1, hz.2.2, q _ H (hS.flat rfl)⟩
    · rw [if_neg hz] at hF; cases hF
  · exact ok_mul X ok H L x y d e o hS lx ly hF Q q
def iEnA (m : M O) : M (List D) := fun s => match m s with
  | some (o, s') => match listOfD o.toD with
    | some l => some (enumD l, s')
    | none => none
  | none => none
theorem si_enumA (h : Sd Γ e m) (hg : Γ.glo "enumerate" = true) (hmg : Γ.cfg.mg "enumerate" = none) (hn : NoStars [e] := by exact ns_cons ns_nil) (hs : ∀ env : PySem.Env, starEach [e] env = [(false, eval e env)] := by intro _; rfl) :
    Si Γ (.Tuple elts kk tpos) (.Call (.Name "enumerate" p) [e] [] pos) (iEnA m) := ⟨fun X ok env ds env' hm σ H T hr R q => by
  unfold iEnA at hm
  cases q1 : m env with
  | none => simp only [q1] at hm; cases hm
  | some r =>
    obtain ⟨o, s1⟩ := r
    simp only [q1] at hm
    cases q2 : o.toD with
    | lst l =>
      simp only [q2, listOfD] at hm
      exact (si_enum h hg hmg hn hs).run X ok env ds env' (by unfold iEn; simp only [q1, q2]; exact hm) σ H T hr R q
    | tup l =>
      simp only [q2, listOfD] at hm
      exact (si_enumT h hg hmg hn hs).run X ok env ds env' (by unfold iEnT; simp only [q1, q2]; exact hm) σ H T hr R q
    | non => simp only [q2, listOfD] at hm; cases hm
    | bl _ => simp only [q2, listOfD] at hm; cases hm
    | int _ => simp only [q2, listOfD] at hm; cases hm
    | str _ => simp only [q2, listOfD] at hm; cases hm
    | dct _ => simp only [q2, listOfD] at hm; cases hm
    | obj _ _ _ => simp only [q2, listOfD] at hm; cases hm⟩
end
end BM

set_option Elab.async false
set_option linter.all false
set_option maxRecDepth 100000
set_option maxHeartbeats 4000000
/-! BM, part 32: plain data that can be shown: repr and == of it. -/
namespace BM
open PySem PySem.Spec PyProof.Rows L2
mutual
def okD : D → Bool
  | .non => true
  | .bl _ => true
  | .int i => decide (i.natAbs.log2 < 1920)
  | .str x => PyData.strOk x
  | .tup l => okDs l
  | .lst l => okDs l
  | _ => false
def okDs : List D → Bool
  | [] => true
  | x :: r => okD x && okDs r
end
mutual
def wtD : D → Nat
  | .non => 4
  | .bl _ => 5
  | .int i => if 0 ≤ i ∧ i < 10 ^ 10 then 10 else 1921
  | .str x => 10 * x.length + 2
  | .tup l => wtDs l + 3
  | .lst l => wtDs l + 3
  | _ => 0
def wtDs : List D → Nat
  | [] => 0
  | x :: r => wtD x + 2 + wtDs r
end
mutual
def dpD : D → Nat
  | .tup l => dpDs l + 1
  | .lst l => dpDs l + 1
  | _ => 0
def dpDs : List D → Nat
  | [] => 0
  | x :: r => max (dpD x) (dpDs r)
end
mutual
def pyT : D → PyData
  | .bl b => .bool b
  | .int i => .int i
  | .str x => .str x
  | .tup l => .tuple (pyTs l)
  | .lst l => .list (pyTs l)
  | _ => .none
def pyTs : List D → List PyData
  | [] => []
  | x :: r => pyT x :: pyTs r
end
theorem depthAll_cons (x : PyData) (r : List PyData) : PyData.depthAll (x :: r) = max x.depth (PyData.depthAll r) := by rw [PyData.depthAll]
mutual
theorem okD_py : ∀ {d : D}, okD d = true → D.py d = some (pyT d) ∧ (pyT d).canLay0 = true ∧ (pyT d).showable = true ∧ (pyT d).hasDict = false ∧ sz (pyT d) ≤ wtD d ∧ (pyT d).depth = dpD d
  | .non, _ => by simp [D.py, pyT, PyData.canLay0, PyData.showable, PyData.hasDict, sz, wtD, PyData.depth, dpD]
  | .bl b, _ => by simp [D.py, pyT, PyData.canLay0, PyData.showable, PyData.hasDict, sz, wtD, PyData.depth, dpD]
  | .int i, h => by
    rw [okD] at h
    refine ⟨by simp [D.py, pyT], by simp [pyT, PyData.canLay0], by simp only [pyT, PyData.showable]; exact h, by simp [pyT, PyData.hasDict], ?_, by simp [pyT, PyData.depth, dpD]⟩
    simp only [pyT, sz, wtD]
    by_cases h2 : 0 ≤ i ∧ i < 10 ^ 10
    · rw [if_pos h2]; exact toString_length_le h2.1 (by decide) h2.2
    · rw [if_neg h2]; exact int_text_len_1921 (of_decide_eq_true h)
  | .str x, h => by
    rw [okD] at h
    simp [D.py, pyT, PyData.canLay0, PyData.showable, PyData.hasDict, sz, wtD, PyData.depth, dpD, h]
  | .tup l, h => by
    rw [okD] at h
    obtain ⟨h1, h2, h3, h4, h5, h6⟩ := okDs_py h
    simp [D.py, pyT, PyData.canLay0, PyData.showable, PyData.hasDict, sz, wtD, PyData.depth, dpD, h1, h2, h3, h4, h5, h6]
  | .lst l, h => by
    rw [okD] at h
    obtain ⟨h1, h2, h3, h4, h5, h6⟩ := okDs_py h
    simp [D.py, pyT, PyData.canLay0, PyData.showable, PyData.hasDict, sz, wtD, PyData.depth, dpD, h1, h2, h3, h4, h5, h6]
  | .dct _, h => by simp [okD] at h
  | .obj _ _ _, h => by simp [okD] at h
theorem okDs_py : ∀ {l : List D}, okDs l = true → D.pys l = some (pyTs l) ∧ PyData.canLayAll0 (pyTs l) = true ∧ PyData.showableAll (pyTs l) = true ∧ PyData.hasDictAll (pyTs l) = false ∧ szs (pyTs l) ≤ wtDs l ∧ PyData.depthAll (pyTs l) = dpDs l
  | [], _ => by simp [D.pys, pyTs, PyData.canLayAll0, PyData.showableAll, PyData.hasDictAll, szs, wtDs, PyData.depthAll, dpDs]
  | x :: r, h => by
    rw [okDs, Bool.and_eq_true] at h
    obtain ⟨h1, h2, h3, h4, h5, h6⟩ := okD_py h.1
    obtain ⟨g1, g2, g3, g4, g5, g6⟩ := okDs_py h.2
    refine ⟨by simp [D.pys, pyTs, h1, g1], by simp [pyTs, PyData.canLayAll0, h2, g2], by simp [pyTs, PyData.showableAll, h3, g3], by simp [pyTs, PyData.hasDictAll, h4, g4], by simp only [pyTs, szs, wtDs]; omega, ?_⟩
    simp only [pyTs, depthAll_cons, dpDs, h6, g6]
end
def rp (d : D) : Str := (pyT d).shown
theorem fRepr_ok {d : D} (h : okD d = true) (hw : wtD d ≤ sizeLine) (hd : dpD d ≤ 60) : fRepr d = some (.d (.str (rp d))) := by
  obtain ⟨h1, h2, h3, h4, h5, h6⟩ := okD_py h
  unfold fRepr
  rw [h1]
  simp only
  have z := Nat.le_trans (shown_len h2) (Nat.le_trans h5 hw)
  rw [if_pos (by simp [h3, h4, h6, hd, z])]
  rfl
theorem shaped_ok {d : D} (h : okD d = true) (hd : dpD d ≤ 60) : SeqAt.shaped (pyT d) = true := by
  obtain ⟨h1, h2, h3, h4, h5, h6⟩ := okD_py h
  unfold SeqAt.shaped
  rw [h2, h6, decide_eq_true (by omega)]
  rfl
theorem fEqD_ok {a b : D} (ha : okD a = true) (hb : okD b = true) (h1 : dpD a ≤ 60) (h2 : dpD b ≤ 60) : fEqD a b = some (PyData.eqv (pyT a) (pyT b)) := by
  unfold fEqD
  rw [(okD_py ha).1, (okD_py hb).1]
  simp only
  rw [shaped_ok ha h1, shaped_ok hb h2]
  rfl
theorem fEq_ok {a b : D} (ha : okD a = true) (hb : okD b = true) (h1 : dpD a ≤ 60) (h2 : dpD b ≤ 60) : fEq a b = some (PyData.eqv (pyT a) (pyT b)) := by
  have key := fEqD_ok ha hb h1 h2
  cases a with
  | str x =>
    cases b with
    | str y =>
      show some (decide (x = y)) = _
      simp only [pyT]
      congr 1
    | _ => exact key
  | dct _ => simp [okD] at ha
  | obj _ _ _ => simp [okD] at ha
  | _ => exact key
end BM

set_option Elab.async false
set_option linter.all false
set_option maxRecDepth 100000
set_option maxHeartbeats 4000000
/-! BM: the words' equations, applied to an environment, for simp (pre-order). -/
namespace BM
open PySem PySem.Spec PyProof.Rows L2
section
variable {s : Env} {α β γ : Type}
/-! ### steps: what simp may look into is the first part alone -/
/-- the type keeps simp out of x -/
structure Tg {α : Sort u} (x : α) : Type where
def ob (x : Option (α × Env)) (f : α → Env → Option β) (_ : Tg f := ⟨⟩) : Option β := match x with
  | some (a, s) => f a s
  | none => none
theorem ob_some (a : α) (f : α → Env → Option β) (t : Tg f) : ob (some (a, s)) f t = f a s := rfl
theorem ob_ext {x : Option (α × Env)} {f g : α → Env → Option β} (h : ∀ a s, f a s = g a s) : ob x f = ob x g := by
  have e : f = g := funext fun a => funext fun s => h a s
  rw [e]
def oo (x : Option α) (f : α → Option β) (_ : Tg f := ⟨⟩) : Option β := match x with
  | some a => f a
  | none => none
theorem oo_some (a : α) (f : α → Option β) (t : Tg f) : oo (some a) f t = f a := rfl
def vr (x : Option (Option O)) (s : Env) : Option (O × Env) := match x with
  | some (some (.d x)) => some (.d x, s)
  | _ => none
theorem vr_some (x : D) : vr (some (some (.d x))) s = some (.d x, s) := rfl
def sl (x : Option (Option O)) (f : O → Option β) (_ : Tg f := ⟨⟩) : Option β := match x with
  | some (some o) => f o
  | _ => none
theorem sl_some (o : O) (f : O → Option β) (t : Tg f) : sl (some (some o)) f t = f o := rfl
def al (x : Option (Option O)) (f : List O → Option β) (_ : Tg f := ⟨⟩) : Option β := match x with
  | some (some (.lst os)) => f os
  | _ => none
theorem al_some (o : List O) (f : List O → Option β) (t : Tg f) : al (some (some (.lst o))) f t = f o := rfl
def fk (b : M Fl) : Fl → Env → Option (Fl × Env)
  | .nx, s => b s
  | .bk, s => some (.bk, s)
  | .ct, s => some (.ct, s)
  | .rt o, s => some (.rt o, s)
theorem fk_nx (b : M Fl) : fk b .nx s = b s := rfl
theorem fk_bk (b : M Fl) : fk b .bk s = some (.bk, s) := rfl
theorem fk_ct (b : M Fl) : fk b .ct s = some (.ct, s) := rfl
theorem fk_rt (b : M Fl) (o : O) : fk b (.rt o) s = some (.rt o, s) := rfl
def lk (b : M Fl) : Fl → Env → Option (Fl × Env)
  | .nx, s => b s
  | .bk, s => some (.nx, s)
  | .ct, s => b s
  | .rt o, s => some (.rt o, s)
theorem lk_nx (b : M Fl) : lk b .nx s = b s := rfl
theorem lk_bk (b : M Fl) : lk b .bk s = some (.nx, s) := rfl
theorem lk_ct (b : M Fl) : lk b .ct s = b s := rfl
theorem lk_rt (b : M Fl) (o : O) : lk b (.rt o) s = some (.rt o, s) := rfl
def rk (f : O → Env → Option β) : Fl → Env → Option β
  | .nx, s => f (.d .non) s
  | .rt o, s => f o s
  | _, _ => none
theorem rk_nx (f : O → Env → Option β) : rk f .nx s = f (.d .non) s := rfl
theorem rk_rt (f : O → Env → Option β) (o : O) : rk f (.rt o) s = f o s := rfl
def rg1 : O → Env → Option (List D × Env)
  | .d (.int j), s => if -(2 ^ 62) ≤ j ∧ j < 2 ^ 62 then some (upto 0 j.toNat, s) else none
  | _, _ => none
theorem rg1_int (j : Int) : rg1 (.d (.int j)) s = (if -(2 ^ 62) ≤ j ∧ j < 2 ^ 62 then some (upto 0 j.toNat, s) else none) := rfl
theorem rg1_nat (n : Nat) (h : n < 2 ^ 60) : rg1 (.d (.int n)) s = some (upto 0 n, s) := by
  rw [rg1_int, if_pos (by omega), Int.toNat_natCast]
/-! ### the words -/
theorem e_pure (a : α) : mpure a s = some (a, s) := rfl
theorem e_bind (m : M α) (f : α → M β) : mbind m f s = ob (m s) f := by
  unfold mbind ob; cases m s <;> rfl
theorem e_var (i : Nat) : mVar i s = vr s[i]? s := by
  unfold mVar vr
  cases s[i]? with
  | none => rfl
  | some x =>
    cases x with
    | none => rfl
    | some o => cases o <;> rfl
theorem e_fz (i : Nat) : mFz i s = sl s[i]? fun o => some (.d o.toD, s.set i (some (.d o.toD))) := by
  unfold mFz sl
  cases s[i]? with
  | none => rfl
  | some x => cases x <;> rfl
theorem e_mv (i : Nat) : mMv i s = sl s[i]? fun o => some (o, s.set i none) := by
  unfold mMv sl
  cases s[i]? with
  | none => rfl
  | some x => cases x <;> rfl
theorem e_C (d : D) : mC d s = some (.d d, s) := rfl
theorem e_val (m : M O) : mval m s = ob (m s) fun o s' => some (.val o.toD, s') := by
  unfold mval ob; cases m s <;> rfl
theorem e_pl (i : Nat) : mPl i s = sl s[i]? fun _ => some (.plc i, s) := by
  unfold mPl sl
  cases s[i]? with
  | none => rfl
  | some x => cases x <;> rfl
theorem e_mods0 : mods [] s = some ([], s) := rfl
theorem e_mods (m : M Od) (r : List (M Od)) : mods (m :: r) s = ob (m s) fun a s1 => ob (mods r s1) fun l s2 => some (a :: l, s2) := by
  show mbind m (fun a => mbind (mods r) fun l => mpure (a :: l)) s = _
  rw [e_bind]
  first | done | rfl | exact ob_ext fun _ _ => e_bind _ _ | exact ob_ext fun _ _ => (e_bind _ _).trans (ob_ext fun _ _ => e_bind _ _)
theorem e_get0 : odsGet s [] = some [] := rfl
theorem e_get (a : Od) (r : List Od) : odsGet s (a :: r) = oo (a.get s) fun d => oo (odsGet s r) fun l => some (d :: l) := by
  rw [odsGet]
  cases a.get s <;> cases odsGet s r <;> rfl
theorem e_getV (d : D) : Od.get s (.val d) = some d := rfl
theorem e_getP (i : Nat) : Od.get s (.plc i) = sl s[i]? O.flat := by
  show (match s[i]? with | some (some o) => o.flat | _ => none) = _
  unfold sl
  cases s[i]? with
  | none => rfl
  | some x => cases x <;> rfl
theorem e_flatD (x : D) : O.flat (.d x) = some x := rfl
theorem e_flatL (os : List O) : O.flat (.lst os) = oo (O.leafs os) fun l => some (.lst l) := by
  show (match O.leafs os with | some l => some (D.lst l) | none => none) = _
  unfold oo; cases O.leafs os <;> rfl
theorem e_leafs0 : O.leafs [] = some [] := rfl
theorem e_leafsD (x : D) (r : List O) : O.leafs (.d x :: r) = oo (O.leafs r) fun l => some (x :: l) := by
  rw [O.leafs]; unfold oo; cases O.leafs r <;> rfl
theorem e_ops (ms : List (M Od)) : mops ms s = ob (mods ms s) fun ods s' => oo (odsGet s' ods) fun ds => some (ds, s') := by
  unfold mops ob oo
  cases mods ms s with
  | none => rfl
  | some p => simp only; cases odsGet p.2 p.1 <;> rfl
theorem e_op (F : List D → Option O) (ms : List (M Od)) : mOp F ms s = ob (mops ms s) fun ds s' => oo (F ds) fun o => some (o, s') := by
  unfold mOp ob oo
  cases mops ms s with
  | none => rfl
  | some p => simp only; cases F p.1 <;> rfl
theorem e_tst (F : List D → Option Bool) (ms : List (M Od)) : mTst F ms s = ob (mops ms s) fun ds s' => oo (F ds) fun o => some (o, s') := by
  unfold mTst ob oo
  cases mops ms s with
  | none => rfl
  | some p => simp only; cases F p.1 <;> rfl
theorem e_bO (F : List D → Option Bool) (ds : List D) : bO F ds = oo (F ds) fun b => some (.d (.bl b)) := by
  unfold bO oo; cases F ds <;> rfl
theorem e_w1 (f : D → Option O) (a : D) : w1 f [a] = f a := rfl
theorem e_w2 (f : D → D → Option O) (a b : D) : w2 f [a, b] = f a b := rfl
theorem e_w1b (f : D → Option Bool) (a : D) : w1b f [a] = f a := rfl
theorem e_w2b (f : D → D → Option Bool) (a b : D) : w2b f [a, b] = f a b := rfl
theorem e_truth1 (d : D) : truth1 [d] = truthD d := rfl
theorem e_truthB (b : Bool) : truthD (.bl b) = some b := rfl
theorem e_truthI (i : Int) : truthD (.int i) = some (i != 0) := rfl
theorem e_truthN : truthD .non = some false := rfl
theorem e_truthL (l : List D) : truthD (.lst l) = some (!l.isEmpty) := rfl
theorem e_truthT (l : List D) : truthD (.tup l) = some (!l.isEmpty) := rfl
theorem e_args0 : mArgs [] s = some ([], s) := rfl
theorem e_args (m : M O) (r : List (M O)) : mArgs (m :: r) s = ob (m s) fun a s1 => ob (mArgs r s1) fun l s2 => some (a :: l, s2) := by
  show mbind m (fun a => mbind (mArgs r) fun l => mpure (a :: l)) s = _
  rw [e_bind]
  first | done | rfl | exact ob_ext fun _ _ => e_bind _ _ | exact ob_ext fun _ _ => (e_bind _ _).trans (ob_ext fun _ _ => e_bind _ _)
theorem e_tup (ms : List (M O)) : mTup ms s = ob (mArgs ms s) fun os s1 => some (.d (.tup (O.toDs os)), s1) := by
  unfold mTup
  rw [e_bind]
  first | done | rfl | exact ob_ext fun _ _ => e_bind _ _ | exact ob_ext fun _ _ => (e_bind _ _).trans (ob_ext fun _ _ => e_bind _ _)
theorem e_lst (ms : List (M O)) : mLst ms s = ob (mArgs ms s) fun os s1 => some (.lst os, s1) := by
  unfold mLst
  rw [e_bind]
  first | done | rfl | exact ob_ext fun _ _ => e_bind _ _ | exact ob_ext fun _ _ => (e_bind _ _).trans (ob_ext fun _ _ => e_bind _ _)
def ifk (a b : M α) (k : Bool) (s : Env) (_ : Tg a := ⟨⟩) (_ : Tg b := ⟨⟩) : Option (α × Env) := match k with
  | true => a s
  | false => b s
theorem ifk_t (a b : M α) (t : Tg a) (u : Tg b) : ifk a b true s t u = a s := rfl
theorem ifk_f (a b : M α) (t : Tg a) (u : Tg b) : ifk a b false s t u = b s := rfl
theorem e_if (c : M Bool) (a b : M α) : mIf c a b s = ob (c s) fun k s1 => ifk a b k s1 := by
  unfold mIf mbind ob
  cases c s with
  | none => rfl
  | some p => obtain ⟨k, s1⟩ := p; cases k <;> rfl
theorem e_sif (c : M Bool) (a b : M Fl) : sIf c a b s = ob (c s) fun k s1 => ifk a b k s1 := e_if c a b
theorem e_or (a b : M Bool) : tOr a b s = ob (a s) fun k s1 => ifk (mpure true) b k s1 := by
  unfold tOr mbind ob
  cases a s with
  | none => rfl
  | some p => obtain ⟨k, s1⟩ := p; cases k <;> rfl
theorem e_and (a b : M Bool) : tAnd a b s = ob (a s) fun k s1 => ifk b (mpure false) k s1 := by
  unfold tAnd mbind ob
  cases a s with
  | none => rfl
  | some p => obtain ⟨k, s1⟩ := p; cases k <;> rfl
theorem e_not (a : M Bool) : tNot a s = ob (a s) fun k s1 => some (!k, s1) := by
  unfold tNot
  rw [e_bind]
  first | done | rfl | exact ob_ext fun _ _ => e_bind _ _ | exact ob_ext fun _ _ => (e_bind _ _).trans (ob_ext fun _ _ => e_bind _ _)
theorem e_mnot (m : M Od) : mNot m s = ob (mTst truth1 [m] s) fun k s' => some (.d (.bl !k), s') := by
  unfold mNot ob; cases mTst truth1 [m] s <;> rfl
theorem e_yes : tYes s = some (true, s) := rfl
theorem e_mor (a b : M O) : mOr a b s = ob (a s) fun o s1 => oo (truthD o.toD) fun k => ifk (mpure (.d o.toD)) b k s1 := by
  unfold mOr mbind ob
  cases a s with
  | none => rfl
  | some p =>
    obtain ⟨o, s1⟩ := p
    cases h : truthD o.toD with
    | none => simp only [h]; rfl
    | some k => cases k <;> simp only [h] <;> rfl
theorem e_mand (a b : M O) : mAnd a b s = ob (a s) fun o s1 => oo (truthD o.toD) fun k => ifk b (mpure (.d o.toD)) k s1 := by
  unfold mAnd mbind ob
  cases a s with
  | none => rfl
  | some p =>
    obtain ⟨o, s1⟩ := p
    cases h : truthD o.toD with
    | none => simp only [h]; rfl
    | some k => cases k <;> simp only [h] <;> rfl
theorem e_mset (i : Nat) (o : O) : mset i o s = (if i < s.length then some ((), s.set i (some o)) else none) := rfl
theorem e_set (i : Nat) (m : M O) : sSet i m s = ob (m s) fun o s1 => ob (mset i (.d o.toD) s1) fun _ s2 => some (.nx, s2) := by
  unfold sSet
  rw [e_bind]
  first | done | rfl | exact ob_ext fun _ _ => e_bind _ _ | exact ob_ext fun _ _ => (e_bind _ _).trans (ob_ext fun _ _ => e_bind _ _)
theorem e_setO (i : Nat) (m : M O) : sSetO i m s = ob (m s) fun o s1 => ob (mset i o s1) fun _ s2 => some (.nx, s2) := by
  unfold sSetO
  rw [e_bind]
  first | done | rfl | exact ob_ext fun _ _ => e_bind _ _ | exact ob_ext fun _ _ => (e_bind _ _).trans (ob_ext fun _ _ => e_bind _ _)
theorem e_expr (m : M O) : sExpr m s = ob (m s) fun _ s1 => some (.nx, s1) := by
  unfold sExpr
  rw [e_bind]
  first | done | rfl | exact ob_ext fun _ _ => e_bind _ _ | exact ob_ext fun _ _ => (e_bind _ _).trans (ob_ext fun _ _ => e_bind _ _)
theorem e_ret (m : M O) : sRet m s = ob (m s) fun o s1 => some (.rt o, s1) := by
  unfold sRet
  rw [e_bind]
  first | done | rfl | exact ob_ext fun _ _ => e_bind _ _ | exact ob_ext fun _ _ => (e_bind _ _).trans (ob_ext fun _ _ => e_bind _ _)
theorem e_retN : sRetN s = some (.rt (.d .non), s) := rfl
theorem e_pass : sPass s = some (.nx, s) := rfl
theorem e_break : sBreak s = some (.bk, s) := rfl
theorem e_cont : sCont s = some (.ct, s) := rfl
theorem e_seq (a b : M Fl) : sSeq a b s = ob (a s) (fk b) := by
  unfold sSeq mbind ob
  cases a s with
  | none => rfl
  | some p => obtain ⟨f, s1⟩ := p; cases f <;> rfl
theorem e_gNm (i : Nat) (d : D) : gNm i d s = mset i (.d d) s := rfl
theorem e_gTs0 : gTs [] [] s = some ((), s) := rfl
theorem e_gTs (g : D → M Unit) (gs : List (D → M Unit)) (d : D) (ds : List D) : gTs (g :: gs) (d :: ds) s = ob (g d s) fun _ s1 => gTs gs ds s1 := by
  simp only [gTs, e_bind, e_pure]
theorem e_gTp (gs : List (D → M Unit)) (ds : List D) : gTp gs (.tup ds) s = gTs gs ds s := rfl
theorem e_gTpST (gs : List (D → M Unit)) (ds : List D) : gTpS gs (.tup ds) s = gTs gs ds s := rfl
theorem e_gTpSL (gs : List (D → M Unit)) (ds : List D) : gTpS gs (.lst ds) s = gTs gs ds s := rfl
theorem e_tgt (g : D → M Unit) (m : M O) : sTgt g m s = ob (m s) fun o s1 => ob (g o.toD s1) fun _ s2 => some (.nx, s2) := by
  unfold sTgt
  rw [e_bind]
  first | done | rfl | exact ob_ext fun _ _ => e_bind _ _ | exact ob_ext fun _ _ => (e_bind _ _).trans (ob_ext fun _ _ => e_bind _ _)
theorem e_sfor (src : M (List D)) (g : D → M Unit) (body : M Fl) : sFor src g body s = ob (src s) fun ds s1 => forL g body ds s1 := by
  unfold sFor
  rw [e_bind]
  first | done | rfl | exact ob_ext fun _ _ => e_bind _ _ | exact ob_ext fun _ _ => (e_bind _ _).trans (ob_ext fun _ _ => e_bind _ _)
theorem e_for0 (g : D → M Unit) (body : M Fl) : forL g body [] s = some (.nx, s) := rfl
theorem e_for (g : D → M Unit) (body : M Fl) (d : D) (ds : List D) : forL g body (d :: ds) s = ob (g d s) fun _ s1 => ob (body s1) (lk (forL g body ds)) := by
  rw [forL, e_bind]
  refine ob_ext fun _ s1 => ?_
  rw [e_bind]
  refine ob_ext fun f s2 => ?_
  cases f <;> rfl
theorem e_wp {own : List Nat} (f : Unit → M β) : mbind (mwipe own) f s = f () (wipeE s own) := rfl
theorem e_lc (own : List Nat) (src : M (List D)) (g : D → M Unit) (t : M Bool) (elt : M O) : mLc own src g t elt s = ob (src s) fun ds s1 => ob (lcL own g t elt ds (wipeE s1 own)) fun l s2 => if l.length ≤ sizeLine then some (.lst l, s2) else none := by
  unfold mLc
  rw [e_bind]
  refine ob_ext fun ds s1 => ?_
  rw [e_wp, e_bind]
  refine ob_ext fun l s2 => ?_
  by_cases h2 : l.length ≤ sizeLine
  · rw [if_pos h2, if_pos h2]; rfl
  · rw [if_neg h2, if_neg h2]; rfl
theorem e_lcL0 (own : List Nat) (g : D → M Unit) (t : M Bool) (elt : M O) : lcL own g t elt [] s = some ([], s) := rfl
theorem e_lcL (own : List Nat) (g : D → M Unit) (t : M Bool) (elt : M O) (d : D) (ds : List D) : lcL own g t elt (d :: ds) s = ob (g d s) fun _ s1 => ob (t s1) fun k s2 =>
    ifk (fun s2 => ob (elt s2) fun o s3 => ob (lcL own g t elt ds (wipeE s3 own)) fun l s4 => some (o :: l, s4)) (fun s2 => lcL own g t elt ds (wipeE s2 own)) k s2 := by
  rw [lcL, e_bind]
  refine ob_ext fun _ s1 => ?_
  rw [e_bind]
  refine ob_ext fun k s2 => ?_
  cases k with
  | false => rw [ifk_f, if_neg (by decide), e_wp]
  | true =>
    rw [ifk_t, if_pos rfl, e_bind]
    refine ob_ext fun o s3 => ?_
    rw [e_wp, e_bind]
    rfl
theorem e_wipe0 : wipeE s [] = s := rfl
theorem e_wipe (v : Nat) (vs : List Nat) : wipeE s (v :: vs) = (wipeE s vs).set v none := rfl
theorem e_iS (m : M O) : iS m s = ob (m s) fun o s' => oo (listOfD o.toD) fun l => some (l, s') := by
  unfold iS ob oo
  cases m s with
  | none => rfl
  | some p => simp only; cases listOfD p.1.toD <;> rfl
theorem e_listT (l : List D) : listOfD (.tup l) = some l := rfl
theorem e_listL (l : List D) : listOfD (.lst l) = some l := rfl
theorem e_iR1 (m : M O) : iR1 m s = ob (m s) rg1 := by
  unfold iR1 ob
  cases m s with
  | none => rfl
  | some p =>
    obtain ⟨o, s1⟩ := p
    cases o with
    | d x => cases x <;> rfl
    | _ => rfl
theorem e_rev (m : M O) : mRev m s = ob (m s) fun o s' => match o.toD with | .lst l => some (.lst (leaf l.reverse), s') | _ => none := by
  unfold mRev ob; cases m s <;> rfl
theorem e_aval (m : M O) : aval m s = ob (m s) fun o s' => some (.val o, s') := by
  unfold aval ob; cases m s <;> rfl
theorem e_aplc (i : Nat) : aplc' i s = sl s[i]? fun _ => some (.plc i, s) := by
  unfold aplc' sl
  cases s[i]? with
  | none => rfl
  | some x => cases x <;> rfl
theorem e_mars0 : mars [] s = some ([], s) := rfl
theorem e_mars (m : M Ar) (r : List (M Ar)) : mars (m :: r) s = ob (m s) fun a s1 => ob (mars r s1) fun l s2 => some (a :: l, s2) := by
  show mbind m (fun a => mbind (mars r) fun l => mpure (a :: l)) s = _
  rw [e_bind]
  first | done | rfl | exact ob_ext fun _ _ => e_bind _ _ | exact ob_ext fun _ _ => (e_bind _ _).trans (ob_ext fun _ _ => e_bind _ _)
theorem e_take0 : takeArs [] s = some ([], s) := rfl
theorem e_takeV (o : O) (r : List Ar) : takeArs (.val o :: r) s = ob (takeArs r s) fun l s1 => some (o :: l, s1) := by
  show mbind (takeArs r) (fun l => mpure (o :: l)) s = _
  rw [e_bind]
  first | done | rfl | exact ob_ext fun _ _ => e_bind _ _ | exact ob_ext fun _ _ => (e_bind _ _).trans (ob_ext fun _ _ => e_bind _ _)
theorem e_takeP (i : Nat) (r : List Ar) : takeArs (.plc i :: r) s = sl s[i]? fun o => ob (takeArs r (s.set i none)) fun l s' => some (o :: l, s') := by
  show (match s[i]? with | some (some o) => (match takeArs r (s.set i none) with | some (l, s') => some (o :: l, s') | none => none) | _ => none) = _
  unfold sl
  cases s[i]? with
  | none => rfl
  | some x =>
    cases x with
    | none => rfl
    | some o =>
      unfold ob
      simp only
      cases takeArs r (s.set i none) <;> rfl
theorem e_give0 : giveArs [] [] s = some ((), s) := rfl
theorem e_giveV (o o' : O) (r : List Ar) (l : List O) : giveArs (.val o :: r) (o' :: l) s = giveArs r l s := rfl
theorem e_giveP (i : Nat) (o : O) (r : List Ar) (l : List O) : giveArs (.plc i :: r) (o :: l) s = ob (mset i o s) fun _ s1 => giveArs r l s1 := by
  show (if i < s.length then giveArs r l (s.set i (some o)) else none) = _
  rw [e_mset]
  by_cases h : i < s.length
  · rw [if_pos h, if_pos h]; rfl
  · rw [if_neg h, if_neg h]; rfl
theorem e_call (f : List O → Option (O × List O)) (ms : List (M Ar)) : mCall f ms s = ob (mars ms s) fun ars s1 => ob (takeArs ars s1) fun os s2 => oo (f os) fun p => ob (giveArs ars p.2 s2) fun _ s' => some (p.1, s') := by
  unfold mCall mbind ob oo
  cases mars ms s with
  | none => rfl
  | some p =>
    obtain ⟨ars, s1⟩ := p
    cases h : takeArs ars s1 with
    | none => simp only [h]
    | some q =>
      obtain ⟨os, s2⟩ := q
      simp only [h]
      cases h3 : f os with
      | none => simp only [h3]
      | some q =>
        obtain ⟨r, outs⟩ := q
        simp only [h3]
        cases giveArs ars outs s2 <;> rfl
theorem e_callM (io : List Bool) (n : Nat) (body : M Fl) (os : List O) : callM io n body os = (if os.length = io.length then ob (body (inE io os ++ List.replicate n none)) (rk fun o s => oo (outsM io os 0 s) fun outs => some (o, outs)) else none) := by
  unfold callM
  by_cases h : os.length = io.length
  · rw [if_pos h, if_pos h]
    unfold ob
    cases body (inE io os ++ List.replicate n none) with
    | none => rfl
    | some p =>
      obtain ⟨f, s⟩ := p
      cases f with
      | nx => show (match outsM io os 0 s with | some outs => some (O.d D.non, outs) | none => none) = oo _ _; unfold oo; cases outsM io os 0 s <;> rfl
      | rt o => show (match outsM io os 0 s with | some outs => some (o, outs) | none => none) = oo _ _; unfold oo; cases outsM io os 0 s <;> rfl
      | _ => rfl
  · rw [if_neg h, if_neg h]
theorem e_in0 : inE [] [] = [] := rfl
theorem e_inT (io : List Bool) (o : O) (os : List O) : inE (true :: io) (o :: os) = some o :: inE io os := rfl
theorem e_inF (io : List Bool) (o : O) (os : List O) : inE (false :: io) (o :: os) = some (.d o.toD) :: inE io os := rfl
theorem e_outs0 (j : Nat) : outsM [] [] j s = some [] := rfl
theorem e_outsT (io : List Bool) (o : O) (os : List O) (j : Nat) : outsM (true :: io) (o :: os) j s = sl s[j]? fun o' => oo (outsM io os (j + 1) s) fun l => some (o' :: l) := by
  unfold sl oo
  rw [outsM]
  cases s[j]? with
  | none => rfl
  | some x =>
    cases x with
    | none => rfl
    | some o' => simp only [if_true]; cases outsM io os (j + 1) s <;> rfl
theorem e_outsF (io : List Bool) (o : O) (os : List O) (j : Nat) : outsM (false :: io) (o :: os) j s = oo (outsM io os (j + 1) s) fun l => some (.d o.toD :: l) := by
  rw [outsM]; unfold oo; cases outsM io os (j + 1) s <;> rfl
theorem e_permF (π ρ : List Nat) (f : List O → Option (O × List O)) (os : List O) : permF π ρ f os = oo (f (permL π os)) fun p => some (p.1, permL ρ p.2) := by
  unfold permF oo; cases f (permL π os) <;> rfl
theorem e_permL0 (l : List α) : permL [] l = [] := rfl
def pcons (x : Option α) (l : List α) : List α := match x with
  | some a => a :: l
  | none => l
theorem pcons_some (a : α) (l : List α) : pcons (some a) l = a :: l := rfl
theorem e_permL (i : Nat) (π : List Nat) (l : List α) : permL (i :: π) l = pcons l[i]? (permL π l) := by
  unfold permL pcons
  rw [List.filterMap_cons]
  cases l[i]? <;> rfl
theorem e_app (i : Nat) (me : M O) : mApp i me s = al s[i]? fun _ => ob (me s) fun y s' => al s'[i]? fun os => if os.length < sizeLine then some (.d .non, s'.set i (some (.lst (os ++ [y])))) else none := by
  unfold mApp al ob
  cases s[i]? with
  | none => rfl
  | some x =>
    cases x with
    | none => rfl
    | some o =>
      cases o with
      | lst os =>
        simp only
        cases me s with
        | none => rfl
        | some p => rfl
      | _ => rfl
theorem e_msetB1 (i : Nat) (o : O) : msetB i true o s = mset i o s := rfl
theorem e_msetB0 (i : Nat) (o : O) : msetB i false o s = mset i (.d o.toD) s := rfl
theorem e_par (i : Nat) (bi : Bool) (j : Nat) (bj : Bool) (ma mb : M O) : sPar i bi j bj ma mb s = ob (ma s) fun x s1 => ob (mb s1) fun y s2 => ob (msetB i bi x s2) fun _ s3 => ob (msetB j bj y s3) fun _ s4 => some (.nx, s4) := by
  unfold sPar
  cases h1 : ma s with
  | none =>
    have hm : mArgs [ma, mb] s = none := by rw [e_args, h1]; rfl
    rw [hm]; rfl
  | some p =>
    obtain ⟨x, s1⟩ := p
    rw [ob_some]
    cases h2 : mb s1 with
    | none =>
      have hm : mArgs [ma, mb] s = none := by rw [e_args, h1, ob_some, e_args, h2]; rfl
      rw [hm]; rfl
    | some p =>
      obtain ⟨y, s2⟩ := p
      have hm : mArgs [ma, mb] s = some ([x, y], s2) := by rw [e_args, h1, ob_some, e_args, h2, ob_some, e_args0]; rfl
      rw [hm, ob_some]
      simp only
      rw [e_bind]
      exact ob_ext fun _ _ => e_bind _ _
theorem e_par3 (i : Nat) (bi : Bool) (j : Nat) (bj : Bool) (k : Nat) (bk : Bool) (ma mb mc : M O) : sPar3 i bi j bj k bk ma mb mc s = ob (ma s) fun x s1 => ob (mb s1) fun y s2 => ob (mc s2) fun z s3 => ob (msetB i bi x s3) fun _ s4 => ob (msetB j bj y s4) fun _ s5 => ob (msetB k bk z s5) fun _ s6 => some (.nx, s6) := by
  unfold sPar3
  cases h1 : ma s with
  | none =>
    have hm : mArgs [ma, mb, mc] s = none := by rw [e_args, h1]; rfl
    rw [hm]; rfl
  | some p =>
    obtain ⟨x, s1⟩ := p
    rw [ob_some]
    cases h2 : mb s1 with
    | none =>
      have hm : mArgs [ma, mb, mc] s = none := by rw [e_args, h1, ob_some, e_args, h2]; rfl
      rw [hm]; rfl
    | some p =>
      obtain ⟨y, s2⟩ := p
      rw [ob_some]
      cases h3 : mc s2 with
      | none =>
        have hm : mArgs [ma, mb, mc] s = none := by rw [e_args, h1, ob_some, e_args, h2, ob_some, e_args, h3]; rfl
        rw [hm]; rfl
      | some p =>
        obtain ⟨z, s3⟩ := p
        have hm : mArgs [ma, mb, mc] s = some ([x, y, z], s3) := by rw [e_args, h1, ob_some, e_args, h2, ob_some, e_args, h3, ob_some, e_args0]; rfl
        rw [hm, ob_some]
        simp only
        rw [e_bind]
        exact ob_ext fun _ _ => (e_bind _ _).trans (ob_ext fun _ _ => e_bind _ _)
theorem e_toD (x : D) : O.toD (.d x) = x := rfl
theorem e_toL (xs : List O) : O.toD (.lst xs) = .lst (O.toDs xs) := rfl
theorem e_toDs0 : O.toDs [] = [] := rfl
theorem e_toDs (x : O) (r : List O) : O.toDs (x :: r) = O.toD x :: O.toDs r := rfl
theorem e_fAddI (i j : Int) : fAdd (.int i) (.int j) = some (.d (.int (i + j))) := rfl
theorem e_fSubI (i j : Int) : fSub (.int i) (.int j) = some (.d (.int (i - j))) := rfl
theorem e_fMulI (i j : Int) : fMul (.int i) (.int j) = (if (sm64 i || sm64 j) = true then some (.d (.int (i * j))) else none) := rfl
theorem e_fModI (i j : Int) : fMod (.int i) (.int j) = (if 0 < j then some (.d (.int (i % j))) else none) := rfl
theorem e_fDivI (i j : Int) : fDiv (.int i) (.int j) = (if 0 < j ∧ j < 1073741824 then some (.d (.int (i / j))) else none) := rfl
theorem e_fLtI (i j : Int) : fLt (.int i) (.int j) = some (decide (i < j)) := rfl
theorem e_fLeI (i j : Int) : fLe (.int i) (.int j) = some (decide (i ≤ j)) := rfl
theorem e_fGtI (i j : Int) : fGt (.int i) (.int j) = some (decide (j < i)) := rfl
theorem e_fGeI (i j : Int) : fGe (.int i) (.int j) = some (decide (j ≤ i)) := rfl
theorem e_fEqI (i j : Int) : fEq (.int i) (.int j) = some (decide (i = j)) := by
  have : fEq (.int i) (.int j) = some (i == j) := rfl
  rw [this]
  congr 1
theorem e_fEqS (x y : Str) : fEq (.str x) (.str y) = some (decide (x = y)) := rfl
theorem e_fEqB (x y : Bool) : fEq (.bl x) (.bl y) = some (decide (x = y)) := by cases x <;> cases y <;> rfl
theorem e_fNe (a b : D) : fNe a b = oo (fEq a b) fun k => some (!k) := by
  unfold fNe oo; cases fEq a b <;> rfl
theorem e_fNotIn (a b : D) : fNotIn a b = oo (fIn a b) fun k => some (!k) := by
  unfold fNotIn oo; cases fIn a b <;> rfl
theorem e_fIsN (a b : D) : fIsN a b = oo (fIs a b) fun k => some (!k) := by
  unfold fIsN oo; cases fIs a b <;> rfl
theorem e_fLenL (l : List D) : fLen (.lst l) = some (.d (.int l.length)) := rfl
theorem e_fLenT (l : List D) : fLen (.tup l) = some (.d (.int l.length)) := rfl
theorem e_fListL (l : List D) : fList (.lst l) = some (.lst (leaf l)) := rfl
theorem e_fListT (l : List D) : fList (.tup l) = some (.lst (leaf l)) := rfl
theorem e_fTupL (l : List D) : fTuple (.lst l) = some (.d (.tup l)) := rfl
theorem e_fTupT (l : List D) : fTuple (.tup l) = some (.d (.tup l)) := rfl
theorem e_fMin (i j : Int) : fMin2 (.int i) (.int j) = some (.d (.int (if j < i then j else i))) := rfl
theorem e_fMax (i j : Int) : fMax2 (.int i) (.int j) = some (.d (.int (if j > i then j else i))) := rfl
theorem e_fNegI (i : Int) : fNeg (.int i) = some (.d (.int (-i))) := rfl
theorem e_ifp {c : Prop} [Decidable c] {x y : α} (h : c) : (if c then x else y) = x := if_pos h
/-! ### loops by what has been consumed -/
theorem x_forP {δ : Type} {emb : δ → D} {g : D → M Unit} {body : M Fl} {S : List δ → Env} : ∀ (xs pre : List δ), (∀ p x q, pre ++ xs = p ++ x :: q → pre.length ≤ p.length → ob (g (emb x) (S p)) (fun _ s1 => body s1) = some (.nx, S (p ++ [x]))) →
    forL g body (xs.map emb) (S pre) = some (.nx, S (pre ++ xs))
  | [], pre, _ => by rw [List.append_nil]; rfl
  | x :: xs, pre, h => by
    have h1 := h pre x xs rfl (Nat.le_refl _)
    rw [List.map_cons, e_for]
    unfold ob at h1 ⊢
    cases e : g (emb x) (S pre) with
    | none => rw [e] at h1; cases h1
    | some p =>
      rw [e] at h1
      simp only at h1 ⊢
      rw [h1]
      simp only [lk_nx]
      rw [x_forP xs (pre ++ [x]) fun p y q e hl => h p y q (by rw [← e, List.append_assoc]; rfl) (by simp at hl; omega), List.append_assoc]
      rfl
/-- a comprehension whose parts leave the environment as it was -/
theorem x_lcT {δ : Type} {emb : δ → D} {own : List Nat} {g : D → M Unit} {t : M Bool} {elt : M O} {s0 : Env} {f : δ → Bool} {h : δ → O} : ∀ (xs : List δ), (∀ x ∈ xs, ∃ s1, g (emb x) s0 = some ((), s1) ∧ t s1 = some (f x, s1) ∧ (f x = true → elt s1 = some (h x, s1)) ∧ wipeE s1 own = s0) →
    lcL own g t elt (xs.map emb) s0 = some ((xs.filter f).map h, s0)
  | [], _ => rfl
  | x :: xs, k => by
    obtain ⟨s1, h1, h2, h3, h4⟩ := k x List.mem_cons_self
    have ih := x_lcT (emb := emb) (f := f) (h := h) xs fun y hy => k y (List.mem_cons_of_mem _ hy)
    rw [List.map_cons, e_lcL, h1, ob_some, h2, ob_some]
    cases e : f x with
    | true =>
      rw [ifk_t, h3 e, ob_some, h4, ih, ob_some, List.filter_cons_of_pos e, List.map_cons]
    | false =>
      rw [ifk_f, h4, ih, List.filter_cons_of_neg (by rw [e]; decide : ¬ f x = true)]
end
end BM

set_option Elab.async false
set_option linter.all false
set_option maxRecDepth 100000
set_option maxHeartbeats 4000000
/-! BM: equations of the newer words; more loops. -/
namespace BM
open PySem PySem.Spec PyProof.Rows L2
section
variable {s : Env} {α β γ : Type}
def fldK (C : Addr) (f : Str) (o : O) (s : Env) : Option (O × Env) := mFld C f (mpure o) s
theorem e_fld (C : Addr) (f : Str) (m : M O) : mFld C f m s = ob (m s) (fldK C f) := by
  unfold mFld ob fldK mFld mpure
  cases m s <;> rfl
def objK (C : Addr) (f : Str) (o : O) (s : Env) : Option (O × Env) := mObj C f (mpure o) s
theorem e_obj (C : Addr) (f : Str) (m : M O) : mObj C f m s = ob (m s) (objK C f) := by
  unfold mObj ob objK mObj mpure
  cases m s <;> rfl
def mkK (ars : List Ar) (s : Env) : O × List O → Option (O × Env)
  | (.d .non, o :: outs) => ob (giveArs ars outs s) fun _ s' => some (o, s')
  | _ => none
theorem mkK_ok (ars : List Ar) (o : O) (outs : List O) : mkK ars s (.d .non, o :: outs) = ob (giveArs ars outs s) fun _ s' => some (o, s') := rfl
theorem e_make (C : Addr) (f : List O → Option (O × List O)) (ms : List (M Ar)) : mMake C f ms s = ob (mars ms s) fun ars s1 => ob (takeArs ars s1) fun os s2 => oo (f (.obj C [] [] :: os)) (mkK ars s2) := by
  unfold mMake
  rw [e_bind]
  refine ob_ext fun ars s1 => ?_
  rw [e_bind]
  refine ob_ext fun os s2 => ?_
  unfold oo
  cases f (.obj C [] [] :: os) with
  | none => rfl
  | some p =>
    obtain ⟨r, outs⟩ := p
    cases r with
    | d x =>
      cases x with
      | non =>
        cases outs with
        | nil => rfl
        | cons o outs => show (match giveArs ars outs s2 with | some (_, s') => some (o, s') | none => none) = ob _ _; unfold ob; cases giveArs ars outs s2 <;> rfl
      | _ => rfl
    | _ => rfl
theorem e_enA (m : M O) : iEnA m s = ob (m s) fun o s' => oo (listOfD o.toD) fun l => some (enumD l, s') := by
  unfold iEnA ob oo
  cases m s with
  | none => rfl
  | some p => simp only; cases listOfD p.1.toD <;> rfl
theorem e_rv (m : M O) : iRv m s = ob (m s) fun o s' => oo (listOfD o.toD) fun l => some (l.reverse, s') := by
  unfold iRv ob oo
  cases m s with
  | none => rfl
  | some p => simp only; cases listOfD p.1.toD <;> rfl
theorem e_dctS (ks : List Str) (ms : List (M O)) : mDctS ks ms s = ob (mArgs ms s) fun os s1 => some (.dct (ks.map D.str) os, s1) := by
  unfold mDctS ob
  cases mArgs ms s <;> rfl
theorem e_fMulXI (i j : Int) : fMulX (.int i) (.int j) = fMul (.int i) (.int j) := rfl
/-! ### comprehensions whose parts change the environment -/
theorem x_lcE {own : List Nat} {g : D → M Unit} {t : M Bool} {elt : M O} {P : Nat → Env → Prop} {R : D → O → Prop} : ∀ (ds : List D) (n : Nat) (s0 : Env), P n s0 →
    (∀ j d s, ds[j]? = some d → P (n + j) s → ∃ s1 s2 o, g d s = some ((), s1) ∧ t s1 = some (true, s1) ∧ elt s1 = some (o, s2) ∧ R d o ∧ P (n + j + 1) (wipeE s2 own)) →
    ∃ os s', lcL own g t elt ds s0 = some (os, s') ∧ P (n + ds.length) s' ∧ os.length = ds.length ∧ ∀ p ∈ ds.zip os, R p.1 p.2
  | [], n, s0, p, _ => ⟨[], s0, rfl, p, rfl, fun q hq => by cases hq⟩
  | d :: ds, n, s0, p, h => by
    obtain ⟨s1, s2, o, h1, h2, h3, h4, h5⟩ := h 0 d s0 rfl p
    obtain ⟨os, s', g1, g2, g3, g4⟩ := x_lcE ds (n + 1) _ h5 fun j e s he hp => by
      have z := h (j + 1) e s he (by rw [show n + (j + 1) = n + 1 + j by omega]; exact hp)
      rw [show n + (j + 1) + 1 = n + 1 + j + 1 by omega] at z
      exact z
    refine ⟨o :: os, s', ?_, by rw [List.length_cons, show n + (ds.length + 1) = n + 1 + ds.length by omega]; exact g2, by rw [List.length_cons, List.length_cons, g3], fun q hq => ?_⟩
    · rw [e_lcL, h1, ob_some, h2, ob_some, ifk_t, h3, ob_some, g1, ob_some]
    · rcases List.mem_cons.mp hq with rfl | hq
      · exact h4
      · exact g4 q hq
/-! ### numbers -/
theorem sm_of {i : Int} (h1 : -(2 ^ 64) < i) (h2 : i < 2 ^ 64) : sm64 i = true := by
  unfold sm64; rw [decide_eq_true h1, decide_eq_true h2]; rfl
theorem sm_mod {a b : Int} (h : 0 < b) (h2 : b < 2 ^ 64) : sm64 (a % b) = true :=
  sm_of (by have := Int.emod_nonneg a (by omega : b ≠ 0); omega) (by have := Int.emod_lt_of_pos a h; omega)
theorem fMul_l {i j : Int} (h : sm64 i = true) : fMul (.int i) (.int j) = some (.d (.int (i * j))) := by
  rw [e_fMulI, h, Bool.true_or, if_pos rfl]
theorem fMul_r {i j : Int} (h : sm64 j = true) : fMul (.int i) (.int j) = some (.d (.int (i * j))) := by
  rw [e_fMulI, h, Bool.or_true, if_pos rfl]
theorem fMod_p {i j : Int} (h : 0 < j) : fMod (.int i) (.int j) = some (.d (.int (i % j))) := by
  unfold fMod; simp only [if_pos h]
theorem fDiv_p {i j : Int} (h : 0 < j ∧ j < 1073741824) : fDiv (.int i) (.int j) = some (.d (.int (i / j))) := by
  unfold fDiv; simp only [if_pos h]
/-! ### subscripts -/
theorem fIx_s {x : Str} {i : Nat} {c : Nat} (hz : x.length ≤ sizeLine) (h : x.cps.toList[i]? = some c) : fIx (.str x) (.int i) = some (.d (.str ⟨#[c]⟩)) := by
  have hi : i < x.cps.toList.length := (List.getElem?_eq_some_iff.mp h).1
  have e : ixN x.cps.toList.length (i : Int) = some i := by
    unfold ixN
    rw [if_pos (by omega), if_pos (by omega)]
    simp
  unfold fIx
  simp only [if_pos hz, e, h]
theorem ixN_nat {n i : Nat} (h : i < n) : ixN n (i : Int) = some i := by
  unfold ixN
  rw [if_pos (by omega), if_pos (by omega)]
  simp
theorem fIx_l {l : List D} {i : Nat} {d : D} (h : l[i]? = some d) : fIx (.lst l) (.int i) = some (.d d) := by
  unfold fIx
  simp only [ixN_nat (List.getElem?_eq_some_iff.mp h).1, h]
theorem fIx_t {l : List D} {i : Nat} {d : D} (h : l[i]? = some d) : fIx (.tup l) (.int i) = some (.d d) := by
  unfold fIx
  simp only [ixN_nat (List.getElem?_eq_some_iff.mp h).1, h]
theorem leaf_len (l : List D) : (leaf l).length = l.length := List.length_map ..
end
end BM

set_option Elab.async false
set_option linter.all false
set_option maxRecDepth 100000
set_option maxHeartbeats 4000000
/-! BM, part 33: list(range(n)), max(list of ints), x, y = a, b with a name that is a cell and a list that is kept. -/
namespace BM
open PySem PySem.Spec PyProof.Rows L2
/-! ### list(range(n)) -/
def lrg1 : O → Env → Option (O × Env)
  | .d (.int n), s => if -(2 ^ 62) ≤ n ∧ n ≤ 16777216 then some (.lst (leaf (upto 0 n.toNat)), s) else none
  | _, _ => none
def mLrg (m : M O) : M O := fun s => match m s with
  | some (o, s') => lrg1 o s'
  | none => none
theorem e_lrg (m : M O) (s : Env) : mLrg m s = ob (m s) lrg1 := by
  unfold mLrg ob
  cases m s with
  | none => rfl
  | some p => rfl
theorem lrg1_nat {n : Nat} {s : Env} (h : n ≤ 16777216) : lrg1 (.d (.int (n : Nat))) s = some (.lst (leaf (upto 0 n)), s) := by
  show (if -(2 ^ 62) ≤ ((n : Nat) : Int) ∧ ((n : Nat) : Int) ≤ 16777216 then some (O.lst (leaf (upto 0 ((n : Nat) : Int).toNat)), s) else none) = _
  rw [if_pos (by omega), Int.toNat_natCast]
section
variable {K : PySem.W.Frag} {H : Hp} {L : List It}
theorem St.ints (h : St K H L) : ∀ ks : List Int, St K H (reps (leaf (ks.map D.int)) (ks.map V.int) ++ L)
  | [] => h
  | k :: ks => (St.ints h ks).flat (d := .int k) (v := .int k) rfl
end
theorem upto_ints (k : Nat) : upto 0 k = ((List.range k).map fun i => (0 : Int) + (i : Nat)).map D.int := by
  rw [List.map_map]; rfl
theorem rgV_ints (n : Int) : rgV 0 n = ((List.range n.toNat).map fun i => (0 : Int) + (i : Nat)).map V.int := by
  unfold rgV
  rw [List.map_map, Int.sub_zero]; rfl
section
variable {Γ : Gm} {e a b : Expr} {p1 p2 pos pos2 px py pz pt pt2 : Pos} {m : M O} {x y : Str} {kt k2}
theorem sd_lrg (h : Sd Γ e m) (hg1 : Γ.glo "list" = true) (hm1 : Γ.cfg.mg "list" = none) (hg2 : Γ.glo "range" = true) (hm2 : Γ.cfg.mg "range" = none)
    (ne : ∀ env : PySem.Env, starEach [e] env = (false, eval e env) :: starEach [] env := by intro _; rfl) :
    Sd Γ (.Call (.Name "list" p1) [.Call (.Name "range" p2) [e] [] pos2] [] pos) (mLrg m) := ⟨fun X ok env o env' hm' σ H T hr Q q => by
  unfold mLrg at hm'
  split at hm'
  · rename_i o1 s1 h1
    cases o1 with
    | d d =>
      cases d with
      | int n =>
        by_cases hz : -(2 ^ 62) ≤ n ∧ n ≤ 16777216
        · have h2 : (if -(2 ^ 62) ≤ n ∧ n ≤ 16777216 then some (O.lst (leaf (upto 0 n.toNat)), s1) else none) = some (o, env') := hm'
          rw [if_pos hz] at h2
          have e1 := Option.some.inj h2
          injection e1 with e1 e2
          subst e1 e2
          refine ⟨_, pe_listRg ok.calm (ok.glo hg1) (by rw [ok.hmg]; exact hm1) (prg_1 (ok.glo hg2) (by rw [ok.hmg]; exact hm2) (pe_best X e) (ne X.env)), ?_⟩
          refine h.run X ok env _ s1 h1 σ H T hr _ fun v H1 r => ?_
          obtain ⟨L, hE, hS⟩ := r
          have ev : v = .int n := by
            have z := hS
            have lk : Look (.rep (.d (.int n)) v :: (T ++ L)) (.int n) v := ⟨.d (.int n), List.mem_cons_self, rfl⟩
            exact lk.int hS
          subst ev
          refine ⟨n, rfl, ⟨by omega, by omega, by omega, by omega, by omega⟩, fun p hp => q _ _ ⟨L, hE, ?_⟩⟩
          rw [upto_ints, rgV_ints]
          exact St.newLst (by simp) hp (St.ints hS.drop _)
        · have h2 : (if -(2 ^ 62) ≤ n ∧ n ≤ 16777216 then some (O.lst (leaf (upto 0 n.toNat)), s1) else none) = some (o, env') := hm'
          rw [if_neg hz] at h2; cases h2
      | _ => cases hm'
    | _ => cases hm'
  · cases hm'⟩
/-! ### x, y = a, b -/
theorem ss_parC {ma mb : M O} (i : Nat) (bi : Bool) (j : Nat) (bj : Bool) (hn : NoStars [a, b]) (h : Sar Γ [a, b] (mArgs [ma, mb])) (hi : Γ.N[i]? = some x := by rfl) (hj : Γ.N[j]? = some y := by rfl)
    (hx : Γ.sto x = true := by kernel_rfl) (hy : Γ.sto y = true := by kernel_rfl) (nd : Γ.N.Nodup := by assumption)
    (hw : ∀ env : PySem.Env, env.scope.names = Γ.sc → swappedStores [.Tuple [.Name x px, .Name y py] kt pt] (.Tuple [a, b] k2 pt2) env = pure none := by exact fun _ he => sw_names he (by kernel_rfl))
    (hs : ∀ env : PySem.Env, env.scope.names = Γ.sc → swapsWithSole [.Tuple [.Name x px, .Name y py] kt pt] (.Tuple [a, b] k2 pt2) pos.line env = pure false := by rintro ⟨⟨_, _, _, _, _⟩, _, _, _, _, _, _, _, _⟩ rfl; rfl)
    (ha : ∀ env : PySem.Env, (assignEach [.Tuple [.Name x px, .Name y py] kt pt] env).map (·.2) = [assign (.Tuple [.Name x px, .Name y py] kt pt) env] := by intro _; rfl)
    (h1 : ∀ env : PySem.Env, (assignEach [.Name x px, .Name y py] env).map (·.2) = assign (.Name x px) env :: (assignEach [.Name y py] env).map (·.2) := by intro _; rfl)
    (h2 : ∀ env : PySem.Env, (assignEach [.Name y py] env).map (·.2) = assign (.Name y py) env :: (assignEach [] env).map (·.2) := by intro _; rfl)
    (h3 : ∀ env : PySem.Env, (assignEach [.Name x px, .Name y py] env).length = 2 := by intro _; rfl)
    (h4 : ∀ env : PySem.Env, (assignEach [.Name x px, .Name y py] env).findIdx? (·.1) = none := by intro _; rfl) :
    Ss Γ (.Assign [.Tuple [.Name x px, .Name y py] kt pt] (.Tuple [a, b] k2 pt2) pos) (sPar i bi j bj ma mb) [i, j] := ⟨fun X ok env fl env' hm σ H T hr D q => by
  unfold sPar at hm
  split at hm
  · rename_i o1 o2 s1 g1
    obtain ⟨_, s2, g2, g3⟩ := mbind_some hm
    obtain ⟨_, s3, g4, g5⟩ := mbind_some g3
    have e1 := Option.some.inj (show some (Fl.nx, s3) = some (fl, env') from g5)
    injection e1 with e1 e2
    subst e1 e2
    obtain ⟨lx1, lx2⟩ := ok.sto hx
    obtain ⟨ly1, ly2⟩ := ok.sto hy
    have nd' : X.N.Nodup := by rw [ok.hN]; exact nd
    refine ⟨_, ps_asg (pe_tup (pa_of hn)) (pg_tup (n := 2) ok.calm (pgs_cons (pg_name nd' (by rw [ok.hN]; exact hi) lx1 lx2) (pgs_cons (pg_name nd' (by rw [ok.hN]; exact hj) ly1 ly2) pgs_nil (h2 X.env)) (h1 X.env)) (h3 X.env) (h4 X.env)) (hs X.env ok.hsc) (hw X.env ok.hsc) (ha X.env), ?_⟩
    show WL X [a, b] σ H fun vs H' => vs.length ≤ sizeLine ∧ ∀ p, H' p = none → gTup X.K 2 (gCons (gName i) (gCons (gName j) gNil)) (.ref p) σ (upd H' p (.tup vs)) D.nx
    refine h.run X ok env _ s1 g1 σ H T hr _ fun vs H1 hl r => ?_
    match vs, hl with
    | [v, w], _ =>
      refine ⟨by rw [sizeLine_eq]; show 2 ≤ 16777216; omega, fun p hp => ⟨p, [v, w], rfl, .inl (.inl upd_same), rfl, v, [w], rfl, w, [], rfl, rfl, q _ _ ?_ (kp_set (kp_set (Kp.refl _ _) (by simp)) (by simp))⟩⟩
      have r2 : RS Γ.cfg.K (upd H1 p (.tup [v, w])) s1 σ (reps [o1, o2] [v, w] ++ T) := RS.lift (fun L hS => St.grow hp hS) r
      exact msetB_rs g4 (msetB_rs g2 r2)
  · cases hm⟩
/-! ### max of a list of ints -/
def maxI : List Int → Int
  | [] => 0
  | [x] => x
  | x :: y :: r => if maxI (y :: r) ≤ x then x else maxI (y :: r)
theorem maxI_spec : ∀ {l : List Int}, l ≠ [] → maxI l ∈ l ∧ ∀ y ∈ l, y ≤ maxI l
  | [], h => absurd rfl h
  | [x], _ => ⟨List.mem_cons_self, fun y hy => by rw [List.mem_singleton.mp hy]; exact Int.le_refl _⟩
  | x :: y :: r, _ => by
    obtain ⟨h1, h2⟩ := maxI_spec (l := y :: r) (by simp)
    rw [maxI]
    by_cases c : maxI (y :: r) ≤ x
    · rw [if_pos c]
      refine ⟨List.mem_cons_self, fun z hz => ?_⟩
      rcases List.mem_cons.mp hz with rfl | hz
      · exact Int.le_refl _
      · exact Int.le_trans (h2 z hz) c
    · rw [if_neg c]
      refine ⟨List.mem_cons_of_mem _ h1, fun z hz => ?_⟩
      rcases List.mem_cons.mp hz with rfl | hz
      · omega
      · exact h2 z hz
def fMaxL : D → Option O
  | .lst l => if l.all isInt = true ∧ l ≠ [] then some (.d (.int (maxI (l.map intD)))) else none
  | _ => none
theorem ok_maxL : OkC Γ (.builtin "max") (w1 fMaxL) := okC1 fun X ok H L x d o hS lx hF Q q => by
  unfold fMaxL at hF
  split at hF
  · rename_i l
    by_cases hz : l.all isInt = true ∧ l ≠ []
    · rw [if_pos hz] at hF
      have e1 := Option.some.inj hF
      subst e1
      obtain ⟨a, vs, e, h1, h2⟩ := lx.lstR hS
      have e2 := reps_ints hz.1 h2
      subst e e2
      have hne : l.map intD ≠ [] := by simpa using hz.2
      obtain ⟨m1, m2⟩ := maxI_spec hne
      refine ⟨_, cr_max ok.calm, a, l.map intD, rfl, by rw [ok.hK]; exact h1, List.length_pos_iff.mpr hne, fun m hm hM => ?_⟩
      have em : m = maxI (l.map intD) := Int.le_antisymm (m2 m hm) (hM _ m1)
      rw [em]
      exact q _ H (hS.flat rfl)
    · rw [if_neg hz] at hF; cases hF
  · cases hF
end
end BM

set_option Elab.async false
set_option linter.all false
set_option maxRecDepth 100000
set_option maxHeartbeats 4000000
/-! BM, part 34: repr of data with dicts of plain entries. -/
namespace BM
open PySem PySem.Spec PyProof.Rows L2
/-- plain values -/
def flX : D → Bool
  | .non => true
  | .bl _ => true
  | .int i => decide (i.natAbs.log2 < 1920)
  | .str x => PyData.strOk x
  | _ => false
def pyF : D → PyData
  | .bl b => .bool b
  | .int i => .int i
  | .str x => .str x
  | _ => .none
def wtF : D → Nat
  | .non => 4
  | .bl _ => 5
  | .int i => if 0 ≤ i ∧ i < 10 ^ 10 then 10 else 1921
  | .str x => 10 * x.length + 2
  | _ => 0
mutual
def okX : D → Bool
  | .non => true
  | .bl _ => true
  | .int i => decide (i.natAbs.log2 < 1920)
  | .str x => PyData.strOk x
  | .tup l => okXs l
  | .lst l => okXs l
  | .dct l => l.all fun q => flX q.1 && flX q.2
  | _ => false
def okXs : List D → Bool
  | [] => true
  | x :: r => okX x && okXs r
end
mutual
def wtX : D → Nat
  | .non => 4
  | .bl _ => 5
  | .int i => if 0 ≤ i ∧ i < 10 ^ 10 then 10 else 1921
  | .str x => 10 * x.length + 2
  | .tup l => wtXs l + 3
  | .lst l => wtXs l + 3
  | .dct l => (l.map fun q => wtF q.1 + wtF q.2 + 4).sum + 3
  | _ => 0
def wtXs : List D → Nat
  | [] => 0
  | x :: r => wtX x + 2 + wtXs r
end
mutual
def dpX : D → Nat
  | .tup l => dpXs l + 1
  | .lst l => dpXs l + 1
  | .dct _ => 1
  | _ => 0
def dpXs : List D → Nat
  | [] => 0
  | x :: r => max (dpX x) (dpXs r)
end
mutual
def pyX : D → PyData
  | .bl b => .bool b
  | .int i => .int i
  | .str x => .str x
  | .tup l => .tuple (pyXs l)
  | .lst l => .list (pyXs l)
  | .dct l => .dict (l.map fun q => (pyF q.1, pyF q.2))
  | _ => .none
def pyXs : List D → List PyData
  | [] => []
  | x :: r => pyX x :: pyXs r
end
/-! ### lengths -/
theorem flX_len : ∀ {d : D}, flX d = true → (pyF d).shown.length ≤ wtF d ∧ (pyF d).depth = 0 ∧ (pyF d).showable = true
  | .non, _ => by simp only [pyF, wtF, PyData.shown, PyData.depth, PyData.showable]; decide
  | .bl b, _ => by cases b <;> (simp only [pyF, wtF, PyData.shown, PyData.depth, PyData.showable]; decide)
  | .int i, h => by
    unfold flX at h
    refine ⟨?_, by simp [pyF, PyData.depth], by simp only [pyF, PyData.showable]; exact h⟩
    simp only [pyF, wtF, PyData.shown]
    by_cases h2 : 0 ≤ i ∧ i < 10 ^ 10
    · rw [if_pos h2]; exact toString_length_le h2.1 (by decide) h2.2
    · rw [if_neg h2]; exact int_text_len_1921 (of_decide_eq_true h)
  | .str x, h => by
    unfold flX at h
    refine ⟨?_, by simp [pyF, PyData.depth], by simp [pyF, PyData.showable]⟩
    have := shown_len (p := .str x) (by simpa [PyData.canLay0] using h)
    simpa [pyF, wtF, sz] using this
  | .tup _, h => by cases h
  | .lst _, h => by cases h
  | .dct _, h => by cases h
  | .obj _ _ _, h => by cases h
theorem shownKv_len : ∀ {l : List (D × D)}, (l.all fun q => flX q.1 && flX q.2) = true → (PyData.shownKv (l.map fun q => (pyF q.1, pyF q.2))).length = l.length ∧ ((PyData.shownKv (l.map fun q => (pyF q.1, pyF q.2))).map (·.length)).sum + 2 * l.length ≤ (l.map fun q => wtF q.1 + wtF q.2 + 4).sum ∧ PyData.depthKv (l.map fun q => (pyF q.1, pyF q.2)) = 0
  | [], _ => by simp [PyData.shownKv, PyData.depthKv]
  | q :: l, h => by
    rw [List.all_cons, Bool.and_eq_true, Bool.and_eq_true] at h
    obtain ⟨⟨h1, h2⟩, h3⟩ := h
    obtain ⟨a1, a2, _⟩ := flX_len h1
    obtain ⟨b1, b2, _⟩ := flX_len h2
    obtain ⟨i1, i2, i3⟩ := shownKv_len h3
    refine ⟨by simp [PyData.shownKv, i1], ?_, ?_⟩
    · simp only [List.map_cons, PyData.shownKv, List.sum_cons, List.length_cons]
      rw [strLen_append, strLen_append]
      have : ((": " : String) : Str).length = 2 := by decide
      omega
    · rw [List.map_cons, PyData.depthKv, a2, b2, i3]; rfl
mutual
theorem okX_len : ∀ {d : D}, okX d = true → (pyX d).shown.length ≤ wtX d ∧ (pyX d).depth = dpX d
  | .non, _ => by simp only [pyX, wtX, PyData.shown, PyData.depth, dpX]; decide
  | .bl b, _ => by cases b <;> (simp only [pyX, wtX, PyData.shown, PyData.depth, dpX]; decide)
  | .int i, h => by
    rw [okX] at h
    have := flX_len (d := .int i) h
    exact ⟨by simpa [pyX, pyF, wtX, wtF] using this.1, by simp [pyX, PyData.depth, dpX]⟩
  | .str x, h => by
    rw [okX] at h
    have := flX_len (d := .str x) h
    exact ⟨by simpa [pyX, pyF, wtX, wtF] using this.1, by simp [pyX, PyData.depth, dpX]⟩
  | .tup l, h => by
    rw [okX] at h
    obtain ⟨h1, h2⟩ := okXs_len h
    refine ⟨?_, by simp only [pyX, PyData.depth, dpX, h2]⟩
    simp only [pyX, PyData.shown, wtX]
    exact Nat.le_trans (tupleText_len_le _) (by rw [shownAll_len]; omega)
  | .lst l, h => by
    rw [okX] at h
    obtain ⟨h1, h2⟩ := okXs_len h
    refine ⟨?_, by simp only [pyX, PyData.depth, dpX, h2]⟩
    simp only [pyX, PyData.shown, wtX]
    exact Nat.le_trans (listText_len_le _) (by rw [shownAll_len]; omega)
  | .dct l, h => by
    rw [okX] at h
    obtain ⟨h1, h2, h3⟩ := shownKv_len h
    refine ⟨?_, by simp only [pyX, PyData.depth, dpX, h3]⟩
    simp only [pyX, PyData.shown, wtX]
    exact Nat.le_trans (dictText_len_le _) (by rw [h1]; omega)
  | .obj _ _ _, h => by simp [okX] at h
theorem okXs_len : ∀ {l : List D}, okXs l = true → ((PyData.shownAll (pyXs l)).map (·.length)).sum + 2 * (pyXs l).length ≤ wtXs l ∧ PyData.depthAll (pyXs l) = dpXs l
  | [], _ => by simp [pyXs, PyData.shownAll, wtXs, PyData.depthAll, dpXs]
  | x :: r, h => by
    rw [okXs, Bool.and_eq_true] at h
    obtain ⟨h1, h2⟩ := okX_len h.1
    obtain ⟨g1, g2⟩ := okXs_len h.2
    refine ⟨?_, by simp only [pyXs, depthAll_cons, dpXs, h2, g2]⟩
    simp only [pyXs, PyData.shownAll, wtXs, List.map_cons, List.sum_cons, List.length_cons]
    omega
end
/-! ### the heap shows it -/
section
variable {X : Cx} {pins : List (Addr × Obj)} {σ : L2.St} {H : Hp} {s : Shared}
theorem showF {bs : List Addr} {n : Nat} : ∀ {d : D} {v : V} {u : Value}, flX d = true → wtF d ≤ sizeLine → Rep X.K H d v → RelV v u → Reads s.heap u (pyF d) [] ∧ ReprK X.prog X.w bs s.heap n u (pyF d).shown
  | .non, v, u, _, _, r, e => by
    rw [Rep] at r; subst r
    cases (show u = Value.none from e)
    exact ⟨.none, by simp only [pyF, PyData.shown]; exact .of_is ReprIs.none _ _ _⟩
  | .bl b, v, u, _, _, r, e => by
    rw [Rep] at r; subst r
    cases (show u = Value.bool b from e)
    exact ⟨.bool b, by simp only [pyF, PyData.shown]; exact .of_is (ReprIs.bool b) _ _ _⟩
  | .int i, v, u, h, _, r, e => by
    rw [Rep] at r; subst r
    obtain ⟨t, rfl⟩ := (show ∃ t, u = Value.int i t from e)
    exact ⟨.int i t, by simp only [pyF, PyData.shown]; exact .of_is (ReprIs.int t (of_decide_eq_true h)) _ _ _⟩
  | .str x, v, u, h, hz, r, e => by
    rw [Rep] at r; subst r
    obtain ⟨t, rfl⟩ := (show ∃ t, u = Value.str x t from e)
    exact ⟨.str x t, by
      have z : (PyData.str x).shown.length ≤ sizeLine := Nat.le_trans (flX_len (d := .str x) h).1 hz
      simp only [pyF, PyData.shown]
      exact .of_is (ReprIs.str x t (by simpa only [PyData.shown] using z)) _ _ _⟩
  | .tup _, _, _, h, _, _, _ => by cases h
  | .lst _, _, _, h, _, _, _ => by cases h
  | .dct _, _, _, h, _, _, _ => by cases h
  | .obj _ _ _, _, _, h, _, _, _ => by cases h
theorem sum_mem {α : Type} (f : α → Nat) : ∀ {l : List α} {q : α}, q ∈ l → f q ≤ (l.map f).sum
  | x :: l, q, h => by
    rw [List.map_cons, List.sum_cons]
    rcases List.mem_cons.mp h with rfl | h
    · omega
    · have := sum_mem f h; omega
theorem showKv {bs : List Addr} {n : Nat} {P : Program} {w : World} : ∀ {l : List (D × D)} {kvs : List (Key × V)} {vs : List (Key × Value)} {es : List DictEntry}, (∀ q ∈ l, flX q.1 = true ∧ flX q.2 = true ∧ wtF q.1 ≤ sizeLine ∧ wtF q.2 ≤ sizeLine) → RepKs X.K H l kvs → KV kvs vs → Pairs (mixKind P w) es vs →
    ReadsAll s.heap (es.map (·.key)) ((l.map fun q => (pyF q.1, pyF q.2)).map (·.1)) [] ∧ ReadsAll s.heap (es.map (·.val)) ((l.map fun q => (pyF q.1, pyF q.2)).map (·.2)) [] ∧ ReprEntriesK X.prog X.w bs s.heap n es (PyData.shownKv (l.map fun q => (pyF q.1, pyF q.2)))
  | [], kvs, vs, es, _, r, k, p => by
    rw [RepKs] at r
    subst r
    cases k
    cases p
    exact ⟨.nil, .nil, by rw [List.map_nil, PyData.shownKv]; exact .nil⟩
  | (k0, d) :: l, kvs, vs, es, h, r, k, p => by
    rw [RepKs] at r
    obtain ⟨k', v, r', e1, e2, h1, h2⟩ := r
    subst e1 e2
    cases k with
    | cons hk hks =>
      rename_i q qs
      cases p with
      | cons a b c =>
        rename_i e es
        obtain ⟨f1, f2, f3, f4⟩ := h _ List.mem_cons_self
        obtain ⟨i1, i2, i3⟩ := showKv (bs := bs) (n := n) (fun q hq => h q (List.mem_cons_of_mem _ hq)) h2 hks c
        obtain ⟨hk1, hk2⟩ := hk
        have hk1 : k' = q.1 := hk1
        have hv : RelV v e.val := by rw [b]; exact hk2
        obtain ⟨g1, g2⟩ := showF (X := X) (s := s) (bs := bs) (n := n) f2 f4 h1 hv
        have kk : Rep X.K H (keyD k') (kV k') ∧ RelV (kV k') e.key := by
          rw [hk1]
          rcases keyIs_shape a with ⟨i, t, ek, ev⟩ | ⟨x, t, ek, ev⟩
          · rw [ek, ev]
            exact ⟨by show Rep X.K H (.int i) (.int i); rw [Rep], t, rfl⟩
          · rw [ek, ev]
            exact ⟨by show Rep X.K H (.str x) (.str x); rw [Rep], t, rfl⟩
        obtain ⟨g3, g4⟩ := showF (X := X) (s := s) (bs := bs) (n := n) f1 f3 kk.1 kk.2
        refine ⟨.cons g3 i1, .cons g1 i2, ?_⟩
        rw [List.map_cons, PyData.shownKv]
        exact .cons g4 g2 i3
mutual
theorem showX (I : Inv X pins σ H s) : ∀ {d : D} {v : V} {u : Value}, okX d = true → wtX d ≤ sizeLine → Rep X.K H d v → RelV v u → ∃ as bs, Reads s.heap u (pyX d) as ∧ ReadAtMost s.heap (pyX d).depth bs ∧ ReprK X.prog X.w bs s.heap (pyX d).depth u (pyX d).shown
  | .non, v, u, h, hz, r, e => by
    obtain ⟨g1, g2⟩ := showF (X := X) (s := s) (bs := []) (n := (pyX .non).depth) (d := .non) rfl (by rw [sizeLine_eq]; decide) r e
    exact ⟨[], [], g1, fun _ z => (nomatch z), g2⟩
  | .bl b, v, u, h, hz, r, e => by
    obtain ⟨g1, g2⟩ := showF (X := X) (s := s) (bs := []) (n := (pyX (.bl b)).depth) (d := .bl b) rfl (by rw [sizeLine_eq]; show 5 ≤ _; decide) r e
    exact ⟨[], [], g1, fun _ z => (nomatch z), g2⟩
  | .int i, v, u, h, hz, r, e => by
    rw [okX] at h
    rw [wtX] at hz
    obtain ⟨g1, g2⟩ := showF (X := X) (s := s) (bs := []) (n := (pyX (.int i)).depth) (d := .int i) h hz r e
    exact ⟨[], [], g1, fun _ z => (nomatch z), g2⟩
  | .str x, v, u, h, hz, r, e => by
    rw [okX] at h
    rw [wtX] at hz
    obtain ⟨g1, g2⟩ := showF (X := X) (s := s) (bs := []) (n := (pyX (.str x)).depth) (d := .str x) h hz r e
    exact ⟨[], [], g1, fun _ z => (nomatch z), g2⟩
  | .tup l, v, u, h, hz, r, e => by
    rw [okX] at h
    rw [wtX] at hz
    rw [Rep] at r
    obtain ⟨a, vs, e1, h1, h2⟩ := r
    subst e1
    cases (show u = Value.ref a from e)
    obtain ⟨its, rv, ⟨o, g1, g2, n, g3⟩, _⟩ := I.tuple h1
    obtain ⟨as, bs, k1, k2, k3⟩ := showsX I h (by omega) h2 rv
    have r1 : Reads s.heap (.ref a) (.tuple (pyXs l)) as := .tuple g1 g2 g3 (by simpa using k1)
    have hna : a ∉ bs := not_mem_of_deeper r1 (by simp only [PyData.depth]; omega) k2
    refine ⟨as, a :: bs, by rw [pyX]; exact r1, by rw [pyX]; exact ReadAtMost.cons r1 (by simp only [PyData.depth]; omega) k2, ?_⟩
    simp only [pyX, PyData.depth, PyData.shown]
    exact ReprK.tuple g1 g2 g3 hna (by simpa using k3)
  | .lst l, v, u, h, hz, r, e => by
    rw [okX] at h
    rw [wtX] at hz
    rw [Rep] at r
    obtain ⟨a, vs, e1, h1, h2⟩ := r
    subst e1
    cases (show u = Value.ref a from e)
    obtain ⟨its, rv, hl, _⟩ := I.list h1
    obtain ⟨o, g1, g2, n, g3⟩ := hl.isList
    obtain ⟨as, bs, k1, k2, k3⟩ := showsX I h (by omega) h2 rv
    have r1 : Reads s.heap (.ref a) (.list (pyXs l)) (a :: as) := .list g1 g2 g3 (by simpa using k1)
    have hna : a ∉ bs := not_mem_of_deeper r1 (by simp only [PyData.depth]; omega) k2
    refine ⟨a :: as, a :: bs, by rw [pyX]; exact r1, by rw [pyX]; exact ReadAtMost.cons r1 (by simp only [PyData.depth]; omega) k2, ?_⟩
    simp only [pyX, PyData.depth, PyData.shown]
    cases its with
    | nil =>
      cases rv
      cases l with
      | nil =>
        rw [pyXs, PyData.shownAll, listText_nil]
        exact ReprK.listEmpty g1 g2 g3
      | cons y l =>
        rw [Reps] at h2
        obtain ⟨_, _, z, _⟩ := h2
        cases z
    | cons y its => exact ReprK.list g1 g2 g3 hna (by simpa using k3.length_eq) (fun i y e => k3.item i y (by simpa using e))
  | .dct l, v, u, h, hz, r, e => by
    rw [okX] at h
    rw [wtX] at hz
    rw [Rep] at r
    obtain ⟨a, kvs, e1, h1, h2⟩ := r
    subst e1
    cases (show u = Value.ref a from e)
    obtain ⟨_, hsys, vs, kv, o, es, ep, g1, g2, g3, _, g5, _⟩ := dk_rd I.hok h1
    have hq : ∀ q ∈ l, flX q.1 = true ∧ flX q.2 = true ∧ wtF q.1 ≤ sizeLine ∧ wtF q.2 ≤ sizeLine := fun q hq => by
      have z := List.all_eq_true.mp h q hq
      rw [Bool.and_eq_true] at z
      have z2 := sum_mem (fun q : D × D => wtF q.1 + wtF q.2 + 4) hq
      exact ⟨z.1, z.2, by omega, by omega⟩
    obtain ⟨k1, k2, k3⟩ := showKv (X := X) (s := s) (bs := []) (n := 0) hq h2 kv g5
    obtain ⟨_, _, dz⟩ := shownKv_len h
    have r1 : Reads s.heap (.ref a) (.dict (l.map fun q => (pyF q.1, pyF q.2))) (a :: [] ++ []) := .dict g1 g2.1 g3 k1 k2
    refine ⟨a :: [] ++ [], [a], by rw [pyX]; exact r1, by rw [pyX]; exact ReadAtMost.cons r1 (Nat.zero_le _) (fun _ z => (nomatch z)), ?_⟩
    simp only [pyX, PyData.depth, PyData.shown, dz]
    exact ReprK.dict g1 g2.1 g3 hsys (by simp) k3
  | .obj _ _ _, _, _, h, _, _, _ => by simp [okX] at h
theorem showsX (I : Inv X pins σ H s) : ∀ {l : List D} {vs : List V} {us : List Value}, okXs l = true → wtXs l ≤ sizeLine → Reps X.K H l vs → Vals vs us → ∃ as bs, ReadsAll s.heap us (pyXs l) as ∧ ReadAtMost s.heap (PyData.depthAll (pyXs l)) bs ∧ ReprAllK X.prog X.w bs s.heap (PyData.depthAll (pyXs l)) us (PyData.shownAll (pyXs l))
  | [], vs, us, _, _, r, e => by
    rw [Reps] at r
    subst r
    cases e
    exact ⟨[], [], by rw [pyXs]; exact .nil, fun _ z => (nomatch z), by rw [pyXs, PyData.shownAll]; exact .nil⟩
  | d :: l, vs, us, h, hz, r, e => by
    rw [okXs, Bool.and_eq_true] at h
    rw [wtXs] at hz
    rw [Reps] at r
    obtain ⟨v, vs', e1, h1, h2⟩ := r
    subst e1
    cases e with
    | cons e1 e2 =>
      obtain ⟨a1, b1, x1, x2, x3⟩ := showX I h.1 (by omega) h1 e1
      obtain ⟨a2, b2, y1, y2, y3⟩ := showsX I h.2 (by omega) h2 e2
      refine ⟨a1 ++ a2, b1 ++ b2, by rw [pyXs]; exact .cons x1 y1, ?_, ?_⟩
      · rw [pyXs, depthAll_cons]
        exact (x2.mono (Nat.le_max_left _ _)).append (y2.mono (Nat.le_max_right _ _))
      · simp only [pyXs, depthAll_cons, PyData.shownAll]
        exact .cons ((x3.more fun b hb => List.mem_append_left _ hb).level_le (Nat.le_max_left _ _)) (y3.more_le (fun b hb => List.mem_append_right _ hb) (Nat.le_max_right _ _))
end
end
/-! ### repr(x) -/
def rpX (d : D) : Str := (pyX d).shown
def fReprX (d : D) : Option O := if (okX d && decide (wtX d ≤ sizeLine) && decide (dpX d ≤ 60)) = true then some (.d (.str (rpX d))) else none
theorem fReprX_ok {d : D} (h : okX d = true) (hw : wtX d ≤ sizeLine) (hd : dpX d ≤ 60) : fReprX d = some (.d (.str (rpX d))) := by
  unfold fReprX
  rw [h, decide_eq_true hw, decide_eq_true hd]; rfl
section
variable {X : Cx}
def rReprX (K : PySem.W.Frag) : List V → Hp → VK → Prop := fun vs H Q => ∃ (x : V) (d : D), vs = [x] ∧ Rep K H d x ∧ okX d = true ∧ wtX d ≤ sizeLine ∧ dpX d ≤ 60 ∧ Q (.str (rpX d)) H
theorem cr_reprX (hg : X.A.guards = some []) (hu : X.A.units + 64 < cLine) : CallR X (.builtin "repr") (rReprX X.K) := by
  intro pins s σ H vs us Q I r h
  obtain ⟨x, d, rfl, hp, hs, hz, hdp, q⟩ := h
  cases r with
  | cons r1 r2 =>
    rename_i u ut
    cases r2
    obtain ⟨hl, hdep⟩ := okX_len hs
    have hsz : (pyX d).shown.length ≤ sizeLine := Nat.le_trans hl hz
    unfold rpX at q
    cases d with
    | non =>
      rw [Rep] at hp; subst hp
      cases (show u = Value.none from r1)
      exact PySem.P.repr_of_none ⟨.str _, H, I.tok _, ⟨_, rfl⟩, by simpa only [pyX, PyData.shown] using q⟩
    | bl b =>
      rw [Rep] at hp; subst hp
      cases (show u = Value.bool b from r1)
      exact PySem.P.repr_of_bool ⟨.str _, H, I.tok _, ⟨_, rfl⟩, by simpa only [pyX, PyData.shown] using q⟩
    | int i =>
      rw [okX] at hs
      rw [Rep] at hp; subst hp
      obtain ⟨t, rfl⟩ := (show ∃ t, u = Value.int i t from r1)
      exact PySem.P.repr_of_int (of_decide_eq_true hs) ⟨.str _, H, I.tok _, ⟨_, rfl⟩, by simpa only [pyX, PyData.shown] using q⟩
    | str y =>
      rw [Rep] at hp; subst hp
      obtain ⟨t, rfl⟩ := (show ∃ t, u = Value.str y t from r1)
      exact PySem.P.repr_of_str ⟨.str _, H, I.tok _, ⟨_, rfl⟩, by simpa only [pyX, PyData.shown] using q⟩ (by simpa only [pyX, PyData.shown] using hsz)
    | tup l =>
      rw [okX] at hs
      rw [wtX] at hz
      rw [Rep] at hp
      obtain ⟨a, vs, e1, h1, h2⟩ := hp
      subst e1
      cases (show u = Value.ref a from r1)
      obtain ⟨its, rv, ⟨o, g1, g2, n, g3⟩, _⟩ := I.tuple h1
      obtain ⟨as, bs, k1, k2, k3⟩ := showsX I hs (by omega) h2 rv
      have rr : Reads s.heap (.ref a) (.tuple (pyXs l)) as := .tuple g1 g2 g3 (by simpa using k1)
      have hna : a ∉ bs := not_mem_of_deeper rr (by simp only [PyData.depth]; omega) k2
      simp only [pyX, PyData.shown, PyData.depth] at q hsz hdep
      exact call_repr_slot (by omega) ⟨o, g1, g2⟩ F.slot_tuple_repr (call_tuple_reprK g1 g2 g3 hna (by simpa using k3) hg (fun b _ => Clear.nil b) (by show X.A.units + 1 + (PyData.depthAll (pyXs l) + 1) < cLine; omega) (fun _ _ e => e) (fun h' u tk hk => ⟨_, _, rfl, ⟨.str _, H, I.kept (t' := tk) hk, ⟨u, rfl⟩, q⟩⟩) hsz)
    | lst l =>
      rw [okX] at hs
      rw [wtX] at hz
      rw [Rep] at hp
      obtain ⟨a, vs, e1, h1, h2⟩ := hp
      subst e1
      cases (show u = Value.ref a from r1)
      obtain ⟨its, rv, hl2, _⟩ := I.list h1
      obtain ⟨o, g1, g2, n, g3⟩ := hl2.isList
      obtain ⟨as, bs, k1, k2, k3⟩ := showsX I hs (by omega) h2 rv
      have rr : Reads s.heap (.ref a) (.list (pyXs l)) (a :: as) := .list g1 g2 g3 (by simpa using k1)
      have hna : a ∉ bs := not_mem_of_deeper rr (by simp only [PyData.depth]; omega) k2
      simp only [pyX, PyData.shown, PyData.depth] at q hsz hdep
      cases its with
      | nil =>
        cases rv
        cases l with
        | nil =>
          rw [pyXs, PyData.shownAll, listText_nil] at q
          exact call_repr_slot (by omega) ⟨o, g1, g2⟩ F.slot_list_repr.toG (call_list_repr_empty ⟨o, g1, g2⟩ g1 g3 ⟨_, _, rfl, ⟨.str _, H, I.tok _, ⟨_, rfl⟩, q⟩⟩)
        | cons y l =>
          rw [Reps] at h2
          obtain ⟨_, _, z, _⟩ := h2
          cases z
      | cons y its =>
        exact call_repr_slot (by omega) ⟨o, g1, g2⟩ F.slot_list_repr.toG (call_list_reprK g1 g2 g3 hna (by simpa using k3.length_eq) (fun i y e => k3.item i y (by simpa using e)) hg (fun b _ => Clear.nil b) (by show X.A.units + 1 + (PyData.depthAll (pyXs l) + 1) < cLine; omega) (fun _ _ e => e) (fun h' u tk hk => ⟨_, _, rfl, ⟨.str _, H, I.kept (t' := tk) hk, ⟨u, rfl⟩, q⟩⟩) hsz)
    | dct l =>
      rw [okX] at hs
      rw [wtX] at hz
      rw [Rep] at hp
      obtain ⟨a, kvs, e1, h1, h2⟩ := hp
      subst e1
      cases (show u = Value.ref a from r1)
      obtain ⟨_, hsys, vs, kv, o, es, ep, g1, g2, g3, _, g5, _⟩ := dk_rd I.hok h1
      have hq : ∀ q ∈ l, flX q.1 = true ∧ flX q.2 = true ∧ wtF q.1 ≤ sizeLine ∧ wtF q.2 ≤ sizeLine := fun q hq => by
        have z := List.all_eq_true.mp hs q hq
        rw [Bool.and_eq_true] at z
        have z2 := sum_mem (fun q : D × D => wtF q.1 + wtF q.2 + 4) hq
        exact ⟨z.1, z.2, by omega, by omega⟩
      obtain ⟨k1, k2, k3⟩ := showKv (X := X) (s := s) (bs := []) (n := 0) hq h2 kv g5
      simp only [pyX, PyData.shown] at q hsz
      exact call_repr_slot (by omega) ⟨o, g1, g2.1⟩ F.slot_dict_repr (call_dict_reprK g1 g2.1 g3 hsys (by simp) k3 hg (fun b _ => Clear.nil b) (by show X.A.units + 1 + (0 + 1) < cLine; omega) (fun _ _ e => e) (fun h' u tk hk => ⟨_, _, rfl, ⟨.str _, H, I.kept (t' := tk) hk, ⟨u, rfl⟩, q⟩⟩) hsz)
    | obj _ _ _ => simp [okX] at hs
end
section
variable {Γ : Gm}
theorem ok_reprX : OkC Γ (.builtin "repr") (w1 fReprX) := okC1 fun X ok H L x d o hS lx hF Q q => by
  unfold fReprX at hF
  by_cases hz : (okX d && decide (wtX d ≤ sizeLine) && decide (dpX d ≤ 60)) = true
  · rw [if_pos hz] at hF
    have e1 := Option.some.inj hF
    subst e1
    simp only [Bool.and_eq_true, decide_eq_true_eq] at hz
    exact ⟨_, cr_reprX ok.gd ok.room.units, x, d, rfl, by rw [ok.hK]; exact lx.rep hS, hz.1.1, hz.1.2, hz.2, q _ H (hS.flat rfl)⟩
  · rw [if_neg hz] at hF; cases hF
end
end BM

set_option Elab.async false
set_option linter.all false
set_option maxRecDepth 100000
set_option maxHeartbeats 4000000
/-! BM, part 35: isinstance(x, a built-in class), ''.join, x == (). -/
namespace BM
open PySem PySem.Spec PyProof.Rows L2
/-! ### isinstance -/
def tyN : D → Option String
  | .non => some "NoneType"
  | .bl _ => some "bool"
  | .int _ => some "int"
  | .str _ => some "str"
  | .tup _ => some "tuple"
  | .lst _ => some "list"
  | .dct _ => some "dict"
  | .obj _ _ _ => none
def fIsTy (n : String) (d : D) : Option O := match tyN d with
  | some t => (match kitB t n with
    | some b => some (.d (.bl b))
    | none => none)
  | none => none
theorem rd_tyL {K : PySem.W.Frag} {H : Hp} {a : Addr} {xs : List V} (h : SqL K H a xs) : TyX K H (.ref a) (.type "list") := by
  rcases h with (h | ⟨o, h⟩) | ⟨o, its, n, h1, h2, _⟩
  · exact .base (.lst h)
  · exact .base (.frz h)
  · exact .kList h1 h2
theorem rd_tyT {K : PySem.W.Frag} {H : Hp} {a : Addr} {xs : List V} (h : SqT K H a xs) : TyX K H (.ref a) (.type "tuple") := by
  rcases h with (h | ⟨o, h⟩) | ⟨o, its, n, h1, h2, _⟩
  · exact .base (.tup h)
  · exact .fTuple h
  · exact .kTuple h1 h2
theorem rep_ty {K : PySem.W.Frag} {H : Hp} : ∀ {d : D} {v : V} {t : String}, Rep K H d v → tyN d = some t → TyX K H v (.type t)
  | .non, v, t, r, e => by rw [Rep] at r; subst r; cases e; exact .base .non
  | .bl b, v, t, r, e => by rw [Rep] at r; subst r; cases e; exact .base (.bl b)
  | .int i, v, t, r, e => by rw [Rep] at r; subst r; cases e; exact .base (.int i)
  | .str x, v, t, r, e => by rw [Rep] at r; subst r; cases e; exact .base (.str x)
  | .tup l, v, t, r, e => by
    rw [Rep] at r; obtain ⟨a, vs, e1, h1, _⟩ := r; subst e1; cases e; exact rd_tyT h1
  | .lst l, v, t, r, e => by
    rw [Rep] at r; obtain ⟨a, vs, e1, h1, _⟩ := r; subst e1; cases e; exact rd_tyL h1
  | .dct l, v, t, r, e => by
    rw [Rep] at r; obtain ⟨a, kvs, e1, h1, _⟩ := r; subst e1; cases e
    rcases h1 with h | ⟨o, h⟩
    · exact .base (.dK h)
    · exact .fDict h
  | .obj _ _ _, v, t, r, e => by cases e
def mIsi (n : String) (m : M O) : M O := fun s => match m s with
  | some (o, s') => (match fIsTy n o.toD with
    | some r => some (r, s')
    | none => none)
  | none => none
theorem e_isi (n : String) (m : M O) (s : Env) : mIsi n m s = ob (m s) fun o s' => oo (fIsTy n o.toD) fun r => some (r, s') := by
  unfold mIsi ob oo
  cases m s with
  | none => rfl
  | some p => simp only; cases fIsTy n p.1.toD <;> rfl
section
variable {Γ : Gm} {e : Expr} {p1 p2 pos : Pos} {m : M O} {c : Str} {n : String}
theorem sd_isi (h : Sd Γ e m) (hg1 : Γ.glo "isinstance" = true) (hm1 : Γ.cfg.mg "isinstance" = none) (hg2 : Γ.glo c = true) (hm2 : Γ.cfg.mg c = none) (hb : bootBuiltins c = some (.type n)) (hn : c ≠ "__name__" := by decide) (hd : (c == ("__debug__" : Str)) = false := by decide)
    (ne : ∀ env : PySem.Env, starEach [e, .Name c p2] env = (false, eval e env) :: starEach [.Name c p2] env := by intro _; rfl) :
    Sd Γ (.Call (.Name "isinstance" p1) [e, .Name c p2] [] pos) (mIsi n m) := ⟨fun X ok env o env' hm' σ H T hr Q q => by
  unfold mIsi at hm'
  split at hm'
  · rename_i o1 s1 h1
    split at hm'
    · rename_i r1 h2
      have e1 := Option.some.inj hm'
      injection e1 with e1 e2
      subst e1 e2
      unfold fIsTy at h2
      split at h2
      · rename_i t ht
        split at h2
        · rename_i b hb2
          have e3 := Option.some.inj h2
          subst e3
          refine ⟨_, pe_callB call_isi (ok.glo hg1) (by rw [ok.hmg]; exact hm1) PyProof.Rows.boot_isinstance (pa_cons (pe_best X e) (pa_cons (pe_bltn (v := .ty n) (ok.glo hg2) (by rw [ok.hmg]; exact hm2) hb rfl hn hd) pa_nil) (ne X.env)) (by decide) (by decide) (ne X.env), ?_⟩
          refine h.run X ok env o1 s1 h1 σ H T hr _ fun v H1 r => ?_
          have r := r.freeze
          obtain ⟨L, hE, hS⟩ := id r
          have lk : Look (.rep (.d o1.toD) v :: (T ++ L)) o1.toD v := ⟨.d o1.toD, List.mem_cons_self, rfl⟩
          have rr := lk.rep hS
          refine ⟨v, .ty n, .type t, .type n, b, rfl, .ty n, by rw [ok.hK]; exact rep_ty rr ht, kit_ty hb2, q _ H1 ⟨L, hE, ?_⟩⟩
          exact hS.drop.flat rfl
        · cases h2
      · cases h2
    · cases hm'
  · cases hm'⟩
end
/-! ### what it answers -/
theorem ty_str : kitB "str" "str" = some true := by decide +kernel
theorem isi_str : ∀ d : D, (∀ C ns xs, d ≠ .obj C ns xs) → fIsTy "str" d = some (.d (.bl (match d with | .str _ => true | _ => false)))
  | .non, _ => by simp only [fIsTy, tyN, show kitB "NoneType" "str" = some false by decide +kernel]
  | .bl _, _ => by simp only [fIsTy, tyN, show kitB "bool" "str" = some false by decide +kernel]
  | .int _, _ => by simp only [fIsTy, tyN, show kitB "int" "str" = some false by decide +kernel]
  | .str _, _ => by simp only [fIsTy, tyN, show kitB "str" "str" = some true by decide +kernel]
  | .tup _, _ => by simp only [fIsTy, tyN, show kitB "tuple" "str" = some false by decide +kernel]
  | .lst _, _ => by simp only [fIsTy, tyN, show kitB "list" "str" = some false by decide +kernel]
  | .dct _, _ => by simp only [fIsTy, tyN, show kitB "dict" "str" = some false by decide +kernel]
  | .obj _ _ _, h => absurd rfl (h _ _ _)
theorem isi_tup : ∀ d : D, (∀ C ns xs, d ≠ .obj C ns xs) → fIsTy "tuple" d = some (.d (.bl (match d with | .tup _ => true | _ => false)))
  | .non, _ => by simp only [fIsTy, tyN, show kitB "NoneType" "tuple" = some false by decide +kernel]
  | .bl _, _ => by simp only [fIsTy, tyN, show kitB "bool" "tuple" = some false by decide +kernel]
  | .int _, _ => by simp only [fIsTy, tyN, show kitB "int" "tuple" = some false by decide +kernel]
  | .str _, _ => by simp only [fIsTy, tyN, show kitB "str" "tuple" = some false by decide +kernel]
  | .tup _, _ => by simp only [fIsTy, tyN, show kitB "tuple" "tuple" = some true by decide +kernel]
  | .lst _, _ => by simp only [fIsTy, tyN, show kitB "list" "tuple" = some false by decide +kernel]
  | .dct _, _ => by simp only [fIsTy, tyN, show kitB "dict" "tuple" = some false by decide +kernel]
  | .obj _ _ _, h => absurd rfl (h _ _ _)
theorem isi_int : ∀ d : D, (∀ C ns xs, d ≠ .obj C ns xs) → fIsTy "int" d = some (.d (.bl (match d with | .int _ => true | .bl _ => true | _ => false)))
  | .non, _ => by simp only [fIsTy, tyN, show kitB "NoneType" "int" = some false by decide +kernel]
  | .bl _, _ => by simp only [fIsTy, tyN, show kitB "bool" "int" = some true by decide +kernel]
  | .int _, _ => by simp only [fIsTy, tyN, show kitB "int" "int" = some true by decide +kernel]
  | .str _, _ => by simp only [fIsTy, tyN, show kitB "str" "int" = some false by decide +kernel]
  | .tup _, _ => by simp only [fIsTy, tyN, show kitB "tuple" "int" = some false by decide +kernel]
  | .lst _, _ => by simp only [fIsTy, tyN, show kitB "list" "int" = some false by decide +kernel]
  | .dct _, _ => by simp only [fIsTy, tyN, show kitB "dict" "int" = some false by decide +kernel]
  | .obj _ _ _, h => absurd rfl (h _ _ _)
end BM

set_option Elab.async false
set_option linter.all false
set_option maxRecDepth 100000
set_option maxHeartbeats 4000000
/-! BM, part 36: a tuple == (), bool + int, str(bool), x.upper(), sep.join(xs). -/
namespace BM
open PySem PySem.Spec PyProof.Rows L2
section
variable {X : Cx}
/-! ### t == () -/
def rEqE (K : PySem.W.Frag) : V → V → Hp → VK → Prop := fun x y H Q => ∃ (a b : Addr) (xs : List V), x = .ref a ∧ y = .ref b ∧ SqT K H a xs ∧ SqT K H b [] ∧ Q (.bl xs.isEmpty) H
theorem op_eqE (hu : X.A.units + 64 < cLine) : OpR X (compareOp .Eq) (rEqE X.K) := by
  intro pins s σ H x y v u Q I rx ry h
  obtain ⟨a, b, xs, rfl, rfl, h1, h2, q⟩ := h
  cases (show v = Value.ref a from rx)
  cases (show u = Value.ref b from ry)
  obtain ⟨its, rv, t1, _⟩ := I.tuple h1
  obtain ⟨its2, rv2, t2, _⟩ := I.tuple h2
  cases rv2
  have r := SeqAt.RcAt.tuples (A := X.A) (e := fun _ => true) t1 t2 (by omega) fun j j1 j2 => absurd j2 (Nat.not_lt_zero _)
  refine r X.prog X.w X.xe _ ⟨.bl xs.isEmpty, H, I, ?_, q⟩
  have hl := rv.length
  show Value.bool _ = Value.bool _
  congr 1
  cases xs with
  | nil =>
    cases rv
    rfl
  | cons y ys =>
    cases rv with
    | cons _ _ => simp
end
def fEqE : D → D → Option Bool
  | .tup a, .tup [] => some a.isEmpty
  | a, b => fEq a b
section
variable {Γ : Gm}
theorem fEqE_tup (a : List D) : fEqE (.tup a) (.tup []) = some a.isEmpty := rfl
end
/-! ### bools as numbers -/
def b2n (b : Bool) : Int := if b = true then 1 else 0
section
variable {X : Cx}
theorem op_add_bi : OpR X (binaryOp .Add) (fun x y H Q => ∃ k i, x = .bl k ∧ y = .int i ∧ Q (.int (b2n k + i)) H) := by
  intro pins s σ H x y v u Q I rx ry h
  obtain ⟨k, i, rfl, rfl, q⟩ := h
  obtain ⟨t, rfl⟩ := ry
  cases (show v = Value.bool k from rx)
  exact PySem.IntBool.add_bool_int ⟨.int (b2n k + i), H, I.tok _, ⟨_, rfl⟩, q⟩
theorem op_sub_bi : OpR X (binaryOp .Sub) (fun x y H Q => ∃ k i, x = .bl k ∧ y = .int i ∧ Q (.int (b2n k - i)) H) := by
  intro pins s σ H x y v u Q I rx ry h
  obtain ⟨k, i, rfl, rfl, q⟩ := h
  obtain ⟨t, rfl⟩ := ry
  cases (show v = Value.bool k from rx)
  exact PySem.IntBool.sub_bool_int ⟨.int (b2n k - i), H, I.tok _, ⟨_, rfl⟩, q⟩
theorem call_str_bl : CallR X (.type "str") (fun xs H Q => ∃ b, xs = [.bl b] ∧ Q (.str (if b then "True" else "False")) H) := by
  intro pins s σ H xs us Q I r h
  obtain ⟨b, rfl, q⟩ := h
  cases r with
  | cons r1 r2 =>
    cases r2
    rename_i u
    cases (show u = Value.bool b from r1)
    exact PySem.P.str_of_bool ⟨.str _, H, I.tok _, ⟨_, rfl⟩, q⟩
end
def fAddX : D → D → Option O
  | .bl k, .int i => some (.d (.int (b2n k + i)))
  | a, b => fAdd a b
def fSubX : D → D → Option O
  | .bl k, .int i => some (.d (.int (b2n k - i)))
  | a, b => fSub a b
def fStrX : D → Option O
  | .bl b => some (.d (.str (if b then "True" else "False")))
  | d => fStr d
def fUpper : D → Option O
  | .str x => if x.length ≤ 5592405 then some (.d (.str (Txt.upper x))) else none
  | _ => none
def mUpper (m : M O) : M O := fun s => match m s with
  | some (o, s') => (match fUpper o.toD with
    | some r => some (r, s')
    | none => none)
  | none => none
theorem e_upper (m : M O) (s : Env) : mUpper m s = ob (m s) fun o s' => oo (fUpper o.toD) fun r => some (r, s') := by
  unfold mUpper ob oo
  cases m s with
  | none => rfl
  | some p => simp only; cases fUpper p.1.toD <;> rfl
def fJoin (sep : Str) : D → Option O
  | .lst l => if l.all isTxD = true ∧ ((l.map strD).map (·.length)).sum + l.length * sep.length ≤ 16777216 then some (.d (.str (Txt.join sep (l.map strD)))) else none
  | .tup l => if l.all isTxD = true ∧ ((l.map strD).map (·.length)).sum + l.length * sep.length ≤ 16777216 then some (.d (.str (Txt.join sep (l.map strD)))) else none
  | _ => none
def mJoin (sep : Str) (m : M O) : M O := fun s => match m s with
  | some (o, s') => (match fJoin sep o.toD with
    | some r => some (r, s')
    | none => none)
  | none => none
theorem e_join (sep : Str) (m : M O) (s : Env) : mJoin sep m s = ob (m s) fun o s' => oo (fJoin sep o.toD) fun r => some (r, s') := by
  unfold mJoin ob oo
  cases m s with
  | none => rfl
  | some p => simp only; cases fJoin sep p.1.toD <;> rfl
section
variable {Γ : Gm} {e : Expr} {apos pos p1 : Pos} {m : M O} {sep : Str} {kd : Option Str}
theorem ok_addX : OkB Γ (binaryOp .Add) (w2 fAddX) := okB_of fun X ok H L x y d e o hS lx ly hF Q q => by
  unfold fAddX at hF
  split at hF
  · have e1 := Option.some.inj hF
    subst e1
    exact ⟨_, op_add_bi, _, _, lx.bl hS, ly.int hS, q _ H (hS.flat rfl)⟩
  · exact ok_add X ok H L x y d e o hS lx ly hF Q q
theorem ok_subX : OkB Γ (binaryOp .Sub) (w2 fSubX) := okB_of fun X ok H L x y d e o hS lx ly hF Q q => by
  unfold fSubX at hF
  split at hF
  · have e1 := Option.some.inj hF
    subst e1
    exact ⟨_, op_sub_bi, _, _, lx.bl hS, ly.int hS, q _ H (hS.flat rfl)⟩
  · exact ok_sub X ok H L x y d e o hS lx ly hF Q q
theorem ok_strX : OkC Γ (.type "str") (w1 fStrX) := okC1 fun X ok H L x d o hS lx hF Q q => by
  unfold fStrX at hF
  split at hF
  · have e1 := Option.some.inj hF
    subst e1
    exact ⟨_, call_str_bl, _, by rw [lx.bl hS], q _ H (hS.flat rfl)⟩
  · exact ok_str X ok H L [x] [d] o hS (.cons lx .nil) hF Q q
theorem sd_upper (h : Sd Γ e m) (hb : ∀ env : PySem.Env, attributeBase e "upper" env (eval e env) = eval e env := by intro _; rfl) (hl : (apos.endLine == pos.line) = true := by rfl) :
    Sd Γ (.Call (.Attribute e "upper" apos) [] [] pos) (mUpper m) := ⟨fun X ok env o env' hm' σ H T hr Q q => by
  unfold mUpper at hm'
  split at hm'
  · rename_i o1 s1 h1
    split at hm'
    · rename_i r1 h2
      have e1 := Option.some.inj hm'
      injection e1 with e1 e2
      subst e1 e2
      cases q1 : o1.toD with
      | str x =>
        rw [q1] at h2
        by_cases hz : x.length ≤ 5592405
        · have h2 : (if x.length ≤ 5592405 then some (O.d (.str (Txt.upper x))) else none) = some r1 := h2
          rw [if_pos hz] at h2
          have e3 := Option.some.inj h2
          subst e3
          refine ⟨_, pe_upper (pe_best X e) (hb X.env) hl, ?_⟩
          refine h.run X ok env o1 s1 h1 σ H T hr _ fun v H1 r => ?_
          have r := r.freeze
          rw [q1] at r
          obtain ⟨L, hE, hS⟩ := id r
          have lk : Look (.rep (.d (.str x)) v :: (T ++ L)) (.str x) v := ⟨.d (.str x), List.mem_cons_self, rfl⟩
          have ev := lk.str hS
          subst ev
          exact ⟨⟨x, rfl⟩, x, rfl, rfl, hz, q _ H1 ⟨L, hE, hS.drop.flat rfl⟩⟩
        · have h2 : (if x.length ≤ 5592405 then some (O.d (.str (Txt.upper x))) else none) = some r1 := h2
          rw [if_neg hz] at h2; cases h2
      | _ => rw [q1] at h2; cases h2
    · cases hm'
  · cases hm'⟩
end
end BM

set_option Elab.async false
set_option linter.all false
set_option maxRecDepth 100000
set_option maxHeartbeats 4000000
/-! BM, part 37: x == () as a rule. -/
namespace BM
open PySem PySem.Spec PyProof.Rows L2
section
variable {Γ : Gm}
theorem fEqE_some {a b : D} {k : Bool} (h : fEqE a b = some k) : (∃ l, a = .tup l ∧ b = .tup [] ∧ k = l.isEmpty) ∨ fEq a b = some k := by
  unfold fEqE at h
  split at h
  · exact .inl ⟨_, rfl, rfl, (Option.some.inj h).symm⟩
  · exact .inr h
theorem ok_eqE : OkB Γ (compareOp .Eq) (bO (w2b fEqE)) := okb_of fun X ok H L x y d e k hS lx ly hF Q q => by
  rcases fEqE_some hF with ⟨l, rfl, rfl, e1⟩ | hF
  · subst e1
    obtain ⟨p, vs, e1, h1, l1, _⟩ := Look.tup hS lx
    obtain ⟨r, ws, e2, h2, l2, _⟩ := Look.tup hS ly
    subst e1 e2
    have ew : ws = [] := List.eq_nil_of_length_eq_zero (by simpa using l2.symm)
    subst ew
    refine ⟨_, op_eqE ok.room.units, p, r, vs, rfl, rfl, by rw [ok.hK]; exact h1, by rw [ok.hK]; exact h2, ?_⟩
    have ei : vs.isEmpty = l.isEmpty := by
      cases l with
      | nil =>
        cases vs with
        | nil => rfl
        | cons => simp at l1
      | cons a l =>
        cases vs with
        | nil => simp at l1
        | cons => rfl
    rw [ei]
    exact q
  · rcases fEq_some hF with ⟨a, b, rfl, rfl, e1⟩ | hF
    · subst e1
      have ex := lx.str hS
      have ey := ly.str hS
      subst ex ey
      refine ⟨_, op_eq, rfl, ?_⟩
      have e : decide (V.str a = V.str b) = decide (a = b) := by by_cases h : a = b <;> simp [h]
      rw [e]; exact q
    · obtain ⟨p, r, h1, h2, h3, h4, e1⟩ := fEqD_some hF
      subst e1
      exact ⟨_, op_eqD ok.room.units, p, r, by rw [ok.hK]; exact rep_dp (lx.rep hS) h1, by rw [ok.hK]; exact rep_dp (ly.rep hS) h2, h3, h4, q⟩
end
end BM

set_option Elab.async false
set_option linter.all false
set_option maxRecDepth 100000
set_option maxHeartbeats 4000000
/-! BM, part 38: values of plain signs (below 128), their weight and depth. -/
namespace BM
open PySem PySem.Spec PyProof.Rows L2
def asc (x : Str) : Bool := x.cps.toList.all (· < 128)
theorem asc_app {a b : Str} (ha : asc a = true) (hb : asc b = true) : asc (a ++ b) = true := by
  unfold asc at *
  show (a.cps ++ b.cps).toList.all _ = true
  rw [Array.toList_append, List.all_append, ha, hb]; rfl
theorem asc_cut {x : Str} (lo hi : Option Int) (h : asc x = true) : asc (cutS x lo hi) = true ∧ (cutS x lo hi).length ≤ x.length := by
  unfold asc at *
  constructor
  · rw [List.all_eq_true] at *
    intro c hc
    refine h c ?_
    have hc : c ∈ ((x.cps.toList.drop (HT.sIx x.length 0 lo)).take (HT.sIx x.length x.length hi - HT.sIx x.length 0 lo)) := by
      simpa [cutS] using hc
    exact List.mem_of_mem_drop (List.mem_of_mem_take hc)
  · show (((x.cps.toList.drop _).take _).toArray).size ≤ x.cps.size
    rw [List.size_toArray, List.length_take, List.length_drop, Array.length_toList]
    omega
theorem up_tab : ((List.range 128).all fun c => match Unicode.upperOf c with
  | [d] => decide (d < 128)
  | _ => false) = true := by decide +kernel
theorem up_one {c : Nat} (h : c < 128) : ∃ d, Unicode.upperOf c = [d] ∧ d < 128 := by
  have z := List.all_eq_true.mp up_tab c (List.mem_range.mpr h)
  split at z
  · rename_i d e
    exact ⟨d, e, of_decide_eq_true z⟩
  · cases z
theorem up_list : ∀ l : List Nat, (∀ c ∈ l, c < 128) → (∀ y ∈ (l.map fun c => Unicode.upperOf c).flatten, y < 128) ∧ ((l.map fun c => Unicode.upperOf c).flatten).length = l.length
  | [], _ => ⟨fun y h => by simp at h, rfl⟩
  | c :: l, h => by
    obtain ⟨d, e, hd⟩ := up_one (h c List.mem_cons_self)
    obtain ⟨i1, i2⟩ := up_list l fun x hx => h x (List.mem_cons_of_mem _ hx)
    rw [List.map_cons, List.flatten_cons, e]
    refine ⟨fun y hy => ?_, by rw [List.length_append, i2]; simp; omega⟩
    rcases List.mem_append.mp hy with hy | hy
    · rw [List.mem_singleton.mp hy]; exact hd
    · exact i1 y hy
theorem up_cps (x : Str) : (Txt.upper x).cps.toList = (x.cps.toList.map fun c => Unicode.upperOf c).flatten := by
  show (placed x fun _ c => Unicode.upperOf c).toList = _
  unfold placed
  rw [Array.toList_flatten, Array.toList_mapIdx]
  congr 1
  exact List.ext_getElem (by simp) fun i h1 h2 => by simp
theorem asc_up {x : Str} (h : asc x = true) : asc (Txt.upper x) = true ∧ (Txt.upper x).length = x.length := by
  unfold asc at *
  rw [List.all_eq_true] at h
  obtain ⟨h1, h2⟩ := up_list x.cps.toList fun c hc => of_decide_eq_true (h c hc)
  constructor
  · rw [up_cps, List.all_eq_true]
    intro y hy
    exact decide_eq_true (h1 y hy)
  · show (Txt.upper x).cps.size = x.cps.size
    rw [← Array.length_toList, up_cps, h2, Array.length_toList]
theorem asc_int (i : Int) : asc (toString i : String) = true := by
  unfold asc
  rw [List.all_eq_true]
  intro c hc
  rw [signs_ofString] at hc
  obtain ⟨ch, h1, e⟩ := List.mem_map.mp hc
  rw [← e]
  rcases int_sign i ch h1 with h | h
  · have := digit_range h
    exact decide_eq_true (by omega)
  · rw [h]; decide
theorem asc_ok {x : Str} (h : asc x = true) : PyData.strOk x = true := by
  unfold asc at h
  unfold PyData.strOk
  rw [Array.all_eq_true']
  rw [List.all_eq_true] at h
  intro c hc
  have := of_decide_eq_true (h c (by simpa using hc))
  exact decide_eq_true (by omega)
/-! ### values -/
mutual
def okA (g : Nat) : D → Bool
  | .non => true
  | .bl _ => true
  | .int i => decide (i.natAbs ≤ 10 ^ 40 + g)
  | .str x => asc x
  | .tup l => okAs g l
  | .lst l => okAs g l
  | .dct l => l.isEmpty
  | .obj _ _ _ => false
def okAs (g : Nat) : List D → Bool
  | [] => true
  | x :: r => okA g x && okAs g r
end
theorem log_small {i : Int} {g : Nat} (hg : g ≤ 1000) (h : i.natAbs ≤ 10 ^ 40 + g) : i.natAbs.log2 < 1920 := by
  by_cases h0 : i.natAbs = 0
  · rw [h0]; decide
  · have h1 : i.natAbs < 2 ^ 140 := by
      have e : (10 : Nat) ^ 40 + 1000 < 2 ^ 140 := by decide
      omega
    have := (Nat.log2_lt h0 (k := 140)).mpr h1
    omega
mutual
theorem okA_X {g : Nat} (hg : g ≤ 1000) : ∀ {d : D}, okA g d = true → okX d = true
  | .non, _ => by rw [okX]
  | .bl _, _ => by rw [okX]
  | .int i, h => by rw [okA] at h; rw [okX]; exact decide_eq_true (log_small hg (of_decide_eq_true h))
  | .str x, h => by rw [okA] at h; rw [okX]; exact asc_ok h
  | .tup l, h => by rw [okA] at h; rw [okX]; exact okAs_X hg h
  | .lst l, h => by rw [okA] at h; rw [okX]; exact okAs_X hg h
  | .dct l, h => by
    rw [okA] at h
    rw [List.isEmpty_iff.mp h, okX]; rfl
  | .obj _ _ _, h => by simp [okA] at h
theorem okAs_X {g : Nat} (hg : g ≤ 1000) : ∀ {l : List D}, okAs g l = true → okXs l = true
  | [], _ => by rw [okXs]
  | x :: r, h => by
    rw [okAs, Bool.and_eq_true] at h
    rw [okXs, okA_X hg h.1, okAs_X hg h.2]; rfl
end
mutual
theorem okA_mono {g g' : Nat} (hg : g ≤ g') : ∀ {d : D}, okA g d = true → okA g' d = true
  | .non, _ => by rw [okA]
  | .bl _, _ => by rw [okA]
  | .int i, h => by rw [okA] at *; exact decide_eq_true (Nat.le_trans (of_decide_eq_true h) (by omega))
  | .str x, h => by rw [okA] at *; exact h
  | .tup l, h => by rw [okA] at *; exact okAs_mono hg h
  | .lst l, h => by rw [okA] at *; exact okAs_mono hg h
  | .dct l, h => by rw [okA] at *; exact h
  | .obj _ _ _, h => by simp [okA] at h
theorem okAs_mono {g g' : Nat} (hg : g ≤ g') : ∀ {l : List D}, okAs g l = true → okAs g' l = true
  | [], _ => by rw [okAs]
  | x :: r, h => by
    rw [okAs, Bool.and_eq_true] at *
    exact ⟨okA_mono hg h.1, okAs_mono hg h.2⟩
end
theorem okAs_mem {g : Nat} : ∀ {l : List D}, okAs g l = true ↔ ∀ x ∈ l, okA g x = true
  | [] => by simp [okAs]
  | x :: r => by
    rw [okAs, Bool.and_eq_true, okAs_mem (l := r)]
    simp
theorem wtXs_app : ∀ a b : List D, wtXs (a ++ b) = wtXs a + wtXs b
  | [], b => by simp [wtXs]
  | x :: a, b => by rw [List.cons_append, wtXs, wtXs, wtXs_app a b]; omega
theorem dpXs_app : ∀ a b : List D, dpXs (a ++ b) = max (dpXs a) (dpXs b)
  | [], b => by simp [dpXs]
  | x :: a, b => by rw [List.cons_append, dpXs, dpXs, dpXs_app a b]; omega
theorem wtXs_sub {a b : List D} (h : a.Sublist b) : wtXs a ≤ wtXs b := by
  induction h with
  | slnil => exact Nat.le_refl _
  | cons x h ih => rw [wtXs]; omega
  | cons_cons x h ih => rw [wtXs, wtXs]; omega
theorem dpXs_mem : ∀ {l : List D} {B : Nat}, dpXs l ≤ B ↔ ∀ x ∈ l, dpX x ≤ B
  | [], B => by simp [dpXs]
  | x :: r, B => by
    rw [dpXs, Nat.max_le, dpXs_mem (l := r)]
    simp
theorem wtXs_mem {l : List D} {x : D} (h : x ∈ l) : wtX x + 2 ≤ wtXs l := by
  induction l with
  | nil => cases h
  | cons y r ih =>
    rw [wtXs]
    rcases List.mem_cons.mp h with rfl | h
    · omega
    · have := ih h; omega
theorem wtXs_rev : ∀ l : List D, wtXs l.reverse = wtXs l
  | [] => rfl
  | x :: r => by rw [List.reverse_cons, wtXs_app, wtXs_rev r, wtXs, wtXs, wtXs]; omega
end BM

set_option Elab.async false
set_option linter.all false
set_option maxRecDepth 100000
set_option maxHeartbeats 4000000
/-! BM, part 39: t[::-1] of a tuple (and of a list). -/
namespace BM
open PySem PySem.Spec PyProof.Rows L2
theorem fm_congr {α β : Type} {f g : α → Option β} : ∀ {l : List α}, (∀ x ∈ l, f x = g x) → l.filterMap f = l.filterMap g
  | [], _ => rfl
  | x :: l, h => by rw [List.filterMap_cons, List.filterMap_cons, h x List.mem_cons_self, fm_congr fun y hy => h y (List.mem_cons_of_mem _ hy)]
theorem pick_rev (xs : Array Value) : ((List.range xs.size).filterMap fun (m : Nat) => xs[(((xs.size : Nat) : Int) - 1 + (m : Int) * (-1)).toNat]?).toArray = xs.toList.reverse.toArray := by
  have e : (List.range xs.size).filterMap (fun (m : Nat) => xs[(((xs.size : Nat) : Int) - 1 + (m : Int) * (-1)).toNat]?) = ((List.range xs.size).map fun k => xs.size - 1 - k).filterMap (xs[·]?) := by
    rw [List.filterMap_map]
    refine fm_congr fun m hm => ?_
    have := List.mem_range.mp hm
    have e : (((xs.size : Nat) : Int) - 1 + (m : Int) * (-1)).toNat = xs.size - 1 - m := by omega
    show xs[(((xs.size : Nat) : Int) - 1 + (m : Int) * (-1)).toNat]? = xs[xs.size - 1 - m]?
    rw [e]
  rw [e, PySem.W.krv_range, List.filterMap_reverse, PySem.W.krv_all]
section
variable {prog : Program} {w : World} {A : Around} {E : Value → Shared → Prop} {s : Shared}
theorem sliceApplied_rev {sl : Addr} {vl vu vs : Value} {n : Nat} {Q : Int × Int × Nat → Shared → Prop} (hs : s.heap.IsSliceOf sl vl vu vs) (pl : IsPart vl none) (pu : IsPart vu none) (ps : IsPart vs (some (-1)))
    (h : Q ((n : Int) - 1, -1, n) s) : wpAny (model prog w) A (Builtin.Slice.sliceApplied (.ref sl) (pure (n : Int))) Q E s := by
  obtain ⟨os, hos, hcs, hds⟩ := id hs
  unfold Builtin.Slice.sliceApplied Builtin.Slice.sliceFields
  refine wpAny_bind (wpAny_bind (wpAny_field hos hds (x := vl) rfl (wpAny_bind (wpAny_field hos hds (x := vu) rfl (wpAny_bind (wpAny_field hos hds (x := vs) rfl (wpAny_pure ?_)))))))
  refine wpAny_bind (HT.slicePart_ ps ?_)
  show wpAny _ _ (if ((-1 : Int) == 0) = true then _ else _) _ _ s
  rw [if_neg (by decide)]
  refine wpAny_bind (HT.slicePart_ pl (wpAny_bind (HT.slicePart_ pu (wpAny_bind (wpAny_pure ?_)))))
  show wpAny _ _ (match Builtin.Slice.sliceAdjust none none (-1) (n : Int) with | (lo, hi) => pure (lo, (-1 : Int), Builtin.Slice.slicePlaces lo hi (-1))) _ _ s
  have e1 : Builtin.Slice.sliceAdjust none none (-1) (n : Int) = ((n : Int) - 1, -1) := by
    unfold Builtin.Slice.sliceAdjust
    simp
  rw [e1]
  show wpAny _ _ (pure ((n : Int) - 1, (-1 : Int), Builtin.Slice.slicePlaces ((n : Int) - 1) (-1) (-1))) _ _ s
  have e2 : Builtin.Slice.slicePlaces ((n : Int) - 1) (-1) (-1) = n := by
    unfold Builtin.Slice.slicePlaces
    have h1 : ¬ ((-1 : Int) > 0) := by decide
    rw [if_neg h1]
    by_cases hc : (n : Int) - 1 > -1
    · rw [if_pos hc, show (- -1 : Int) = 1 by decide, Int.ediv_one]; omega
    · rw [if_neg hc]; omega
  rw [e2]
  exact wpAny_pure h
theorem getItem_tuple_rev {t sl : Addr} {items : Array Value} {vl vu vs : Value} {Q : Value → Shared → Prop} (ht : IsTup s.heap t items) (hs : s.heap.IsSliceOf sl vl vu vs) (pl : IsPart vl none) (pu : IsPart vu none) (ps : IsPart vs (some (-1)))
    (h : Q (.ref s.heap.objs.size) { s with heap := s.heap.push { cls := .type "tuple", data := .seq items.toList.reverse.toArray } }) (hsz : items.size ≤ sizeLine) : wpAny (model prog w) A (getItem (.ref t) (.ref sl)) Q E s := by
  have htake : sizeOk (.seq items.toList.reverse.toArray) := by
    show items.toList.reverse.toArray.size ≤ sizeLine
    rw [List.size_toArray, List.length_reverse, Array.length_toList]
    exact hsz
  obtain ⟨os, hos, hcs, hds⟩ := id hs
  have hTs : s.TypeIs (.ref sl) "slice" := ⟨os, hos, hcs⟩
  unfold getItem
  try with_reducible refine wpAny_holding ?_
  first | refine wpAny_bind (wpAny_pure ?_) | skip
  refine wpAny_bind (wpAny_sequenceKey ht.typeIs (by decide) ?_)
  refine wpAny_bind (wpAny_callSpecial?_slot (name := Str.ofString "__getitem__") ht.typeIs PyProof.Rows.slot_tuple_getitem
    (wpAny_call_entry PyProof.Rows.slot_tuple_getitem ht.typeIs entry_tuple_getitem ?_ (args_tuple_getitem _ _)))
  show wpAny _ _ (Builtin.Tuple.tupleItemsOf (.ref t) >>= _) _ _ s
  refine wpAny_bind (tupleItemsOf_ ht ?_)
  refine wpAny_bind (wpAny_typeOf hTs ?_)
  rw [if_pos (by decide)]
  refine wpAny_bind (sliceApplied_rev hs pl pu ps ?_)
  show wpAny _ _ (if ((((items.size : Nat) : Int) - 1) == 0 && (-1 : Int) == 1 && items.size == items.size) = true then _ else _) _ _ s
  rw [if_neg (by simp), pick_rev]
  first
    | exact wpAny_bind (m := Builtin.Tuple.tupleExact _) (wpAny_newObj_type (wpAny_pure ⟨_, rfl, wpAny_pure h⟩) htake)
    | exact wpAny_bind (m := Builtin.Tuple.tupleExact _) (wpAny_newObj_type (wpAny_bind (wpAny_pure (wpAny_pure ⟨_, rfl, wpAny_pure h⟩))) htake)
    | exact wpAny_bind (wpAny_bind (m := Builtin.Tuple.tupleExact _) (wpAny_newObj_type (wpAny_pure (wpAny_pure ⟨_, rfl, wpAny_pure h⟩)) htake))
    | exact wpAny_bind (wpAny_bind (m := Builtin.Tuple.tupleExact _) (wpAny_newObj_type (wpAny_pure ⟨_, rfl, wpAny_pure h⟩) htake))
end
section
variable {X : Cx}
def tRevT (K : PySem.W.Frag) (te : TE) : TE := fun σ H Q => te σ H fun x H1 => ∃ a xs, x = .ref a ∧ SqT K H1 a xs ∧ ∀ p, H1 p = none → Q (.ref p) (upd H1 p (.tup xs.reverse))
theorem pe_revT {e : Expr} {te : TE} {k : Nat} {p1 p2 p3 pos : Pos} (he : PE X e te) : PE X (.Subscript e (.Slice none none (some (.UnaryOp .USub (.Constant (.int 1) k p1) p2)) p3) pos) (tRevT X.K te) := by
  refine ⟨fun pins s σ H Q I h => ?_⟩
  refine Subscript_ (thn (he.run pins s σ H _ I h) fun v s1 ⟨x, H1, I1, r1, q1⟩ => ?_)
  obtain ⟨a, xs, ex, hx, q⟩ := q1
  subst ex
  cases r1
  have hst : PO X (some (.UnaryOp .USub (.Constant (.int 1) k p1) p2)) (tPart (tUn (rU fun i => .int (-i)) (tC (.int 1)))) := po_some (pe_un un_neg pe_int)
  refine wpAny_Slice (thn (po_none.run pins s1 σ H1 (fun o H2 => o = none ∧ H2 = H1) I1 ⟨rfl, rfl⟩) fun vl s2 ⟨l, H2, I2, pl, el, e2⟩ => ?_)
  subst el e2
  refine thn (po_none.run pins s2 σ H2 (fun o H3 => o = none ∧ H3 = H2) I2 ⟨rfl, rfl⟩) fun vu s3 ⟨u, H3, I3, pu, eu, e3⟩ => ?_
  subst eu e3
  refine thn (hst.run pins s3 σ H3 (fun o H4 => o = some (-1) ∧ H4 = H3) I3 ⟨1, rfl, -1, rfl, rfl, rfl⟩) fun vs s4 ⟨o, H4, I4, ps, eo, e4⟩ => ?_
  subst eo e4
  have I5 : Inv X pins σ H4 { s4 with heap := s4.heap.push { cls := .type "slice", data := .fields #[vl, vu, vs] } } := I4.kept (t' := s4.toks) fun b ob q => Heap.get?_push_of_some _ q
  obtain ⟨its, r, ht, hz⟩ := I5.tuple hx
  have hlen := r.length
  show wpAny (model X.prog X.w) X.A (subscriptTail e (.Slice none none (some (.UnaryOp .USub (.Constant (.int 1) k p1) p2)) p3) (.ref a) (.ref s4.heap.objs.size)) (EP X pins σ Q) X.xe { s4 with heap := s4.heap.push { cls := .type "slice", data := .fields #[vl, vu, vs] } }
  refine tail_any (ops := [.ref a, .ref s4.heap.objs.size]) ht.typeIs (PyProof.Rows.slot_tuple_getitem.lookup) ?_ (by with_unfolding_all rfl)
  refine getItem_tuple_rev ht (Heap.IsSliceOf.new _ vl vu vs) pl pu ps ?_ (by rw [List.size_toArray]; omega)
  refine ⟨.ref _, _, I5.laid (t' := s4.toks) (o := .tup xs.reverse) (fun b ob q => Heap.get?_push_of_some _ q) (Nat.le_refl _) ?_, rfl, q _ (I5.hok.fresh (Nat.le_refl _))⟩
  exact ⟨by rw [List.length_reverse]; exact hz, _, r.reverse, IsTup.new _ _⟩
end
/-! ### x[::-1], a list or a tuple -/
def mRevX (m : M O) : M O := fun s => match m s with
  | some (o, s') => (match o.toD with
    | .lst l => some (.lst (leaf l.reverse), s')
    | .tup l => some (.d (.tup l.reverse), s')
    | _ => none)
  | none => none
def revX : O → Env → Option (O × Env)
  | o, s => match o.toD with
    | .lst l => some (.lst (leaf l.reverse), s)
    | .tup l => some (.d (.tup l.reverse), s)
    | _ => none
theorem e_revX (m : M O) (s : Env) : mRevX m s = ob (m s) revX := by
  unfold mRevX ob
  cases m s with
  | none => rfl
  | some p => rfl
theorem revX_t (l : List D) (s : Env) : revX (.d (.tup l)) s = some (.d (.tup l.reverse), s) := rfl
section
variable {Γ : Gm} {e : Expr} {p1 p2 p3 pos : Pos} {m : M O} {k : Nat}
theorem sd_revX (h : Sd Γ e m) : Sd Γ (.Subscript e (.Slice none none (some (.UnaryOp .USub (.Constant (.int 1) k p1) p2)) p3) pos) (mRevX m) := ⟨fun X ok env o env' hm σ H T hr Q q => by
  unfold mRevX at hm
  cases q1 : m env with
  | none => rw [q1] at hm; cases hm
  | some r =>
    obtain ⟨o1, s1⟩ := r
    simp only [q1] at hm
    cases q2 : o1.toD with
    | lst l =>
      refine (sd_rev h).run X ok env o env' ?_ σ H T hr Q q
      unfold mRev
      simp only [q1, q2]
      simp only [q2] at hm
      exact hm
    | tup l =>
      simp only [q2] at hm
      have e1 := Option.some.inj hm
      injection e1 with e1 e2
      subst e1 e2
      refine ⟨_, pe_revT (pe_best X e), h.run X ok env o1 s1 q1 σ H T hr _ fun v H' r => ?_⟩
      have r := r.freeze
      rw [q2] at r
      obtain ⟨L, hE, hS⟩ := r
      obtain ⟨a, vs, e1, h1, l1, s1'⟩ := St.read_tup (L := T ++ L) hS
      subst e1
      refine ⟨a, vs, rfl, by rw [ok.hK]; exact h1, fun p hp => q _ _ ⟨L, hE, ?_⟩⟩
      have s2 : St Γ.cfg.K H' (reps (leaf l.reverse) vs.reverse ++ (T ++ L)) := by
        rw [reps_zip (by simp [l1])]
        rw [reps_zip l1] at s1'
        refine (s1'.sub (List.Sublist.append_left (List.sublist_cons_self _ _) _)).perm (List.Perm.append_right _ ?_)
        rw [zip_rev l1, List.map_reverse]
        exact (List.reverse_perm _).symm
      exact St.newTup (by simp [l1]) hp s2
    | non => simp only [q2] at hm; cases hm
    | bl _ => simp only [q2] at hm; cases hm
    | int _ => simp only [q2] at hm; cases hm
    | str _ => simp only [q2] at hm; cases hm
    | dct _ => simp only [q2] at hm; cases hm
    | obj _ _ _ => simp only [q2] at hm; cases hm⟩
end
end BM

set_option Elab.async false
set_option linter.all false
set_option maxRecDepth 100000
set_option maxHeartbeats 4000000
/-! BM, part 40: zip(x, y, strict=True) of lists and tuples. -/
namespace PySem
open Sem (wp)
/-- an iterator over a list (false) or a tuple (true), and what it walks -/
def BMIter (h : Heap) (k : Bool) (it l : Addr) (i : Nat) : Prop := match k with
  | true => h.IsTupleIter it l i
  | false => h.IsListIter it l i
def BMSeq (h : Heap) (k : Bool) (l : Addr) (xs : Array Value) : Prop := match k with
  | true => h.IsTuple l xs
  | false => h.IsList l xs
theorem BMIter.at {h h' : Heap} {k : Bool} {a l i} (x : BMIter h k a l i) (e : ∀ o, h.get? a = some o → h'.get? a = some o) : BMIter h' k a l i := by
  cases k
  · exact Heap.IsListIter.at x e
  · exact Heap.IsTupleIter.at x e
theorem BMIter.extBut {h h' : Heap} {k : Bool} {a b l i} (x : BMIter h k a l i) (hs : Heap.ExtBut b h h') (hab : a ≠ b) : BMIter h' k a l i := by
  cases k
  · exact Heap.IsListIter.extBut x hs hab
  · exact Heap.IsTupleIter.extBut x hs hab
theorem BMSeq.at {h h' : Heap} {k : Bool} {a xs} (x : BMSeq h k a xs) (e : ∀ o, h.get? a = some o → h'.get? a = some o) : BMSeq h' k a xs := by
  cases k
  · exact Heap.IsList.at x e
  · exact Heap.IsTuple.at x e
theorem BMSeq.extBut {h h' : Heap} {k : Bool} {a b xs} (x : BMSeq h k a xs) (hs : Heap.ExtBut b h h') (hab : a ≠ b) : BMSeq h' k a xs := by
  cases k
  · exact Heap.IsList.extBut x hs hab
  · exact Heap.IsTuple.extBut x hs hab
theorem BMIter.ex {h : Heap} {k : Bool} {a l i} (x : BMIter h k a l i) : ∃ o, h.get? a = some o ∧ ∃ fs, o.data = .fields fs := by
  cases k
  · obtain ⟨o, h1, h2, h3⟩ := x
    exact ⟨o, h1, _, h3⟩
  · obtain ⟨o, h1, h2, h3⟩ := x
    exact ⟨o, h1, _, h3⟩
theorem BMSeq.ex {h : Heap} {k : Bool} {a xs} (x : BMSeq h k a xs) : ∃ o, h.get? a = some o := by
  cases k
  · obtain ⟨o, h1, _⟩ := x
    exact ⟨o, h1⟩
  · obtain ⟨o, h1, _⟩ := x
    exact ⟨o, h1⟩
abbrev BMitObj (k : Bool) (l : Addr) : Obj := { cls := .type (match k with | true => "tuple_iterator" | false => "list_iterator"), data := .fields #[.ref l, .int 0 0] }
theorem BMbegins (k : Bool) (l : Addr) (xs : Array Value) : Begins (.ref l) (BMitObj k l) fun h => BMSeq h k l xs := by
  cases k
  · exact begins_list l xs
  · exact begins_tuple l xs
theorem BMIter.of {h : Heap} {k : Bool} {it l : Addr} (e : h.get? it = some (BMitObj k l)) : BMIter h k it l 0 := by
  cases k
  · exact ⟨_, e, rfl, rfl⟩
  · exact ⟨_, e, rfl, rfl⟩
abbrev BMZip (h : Heap) (z TI TO : Addr) (f0 : Value) : Prop :=
  h.get? z = some { cls := .type "zip", dict := none, data := .fields #[f0, .bool false, .bool true, .ref TI, .ref TO], slots := #[] }
section
variable {prog : Program} {w : World} {A : Around} {E : Value → Shared → Prop} {s : Shared}
theorem BMnx_item {k : Bool} {it l : Addr} {i : Nat} {items : Array Value} {x : Value} {Q : Value → Shared → Prop} (hit : BMIter s.heap k it l i)
    (hl : BMSeq s.heap k l items) (hx : items[i]? = some x)
    (hQ : ∀ h', BMIter h' k it l (i + 1) → Heap.SameBut it s.heap h' → Q x { s with heap := h' }) :
    wpAny (model prog w) A (Builtin.SmallTypes.nextOf (.ref it)) Q E s := by
  cases k
  · exact wpAny_nextOf_list_item hit hl hx hQ
  · exact RZ.nextOf_tuple_item hit hl hx hQ
theorem BMnx_end {k : Bool} {it l : Addr} {i : Nat} {items : Array Value} {Q : Value → Shared → Prop} (hh : A.handled = none)
    (hit : BMIter s.heap k it l i) (hl : BMSeq s.heap k l items) (hx : items[i]? = none)
    (hE : ∀ h' e, Heap.ExtBut it s.heap h' → (∃ o, h'.get? e = some o ∧ o.cls = .type "StopIteration") → E (.ref e) { s with heap := h' }) :
    wpAny (model prog w) A (Builtin.SmallTypes.nextOf (.ref it)) Q E s := by
  cases k
  · exact wpAny_nextOf_list_end hh hit hl hx hE
  · exact RZ.nextOf_tuple_end hh hit hl hx hE
theorem BMne_item {k : Bool} {it l : Addr} {i : Nat} {items : Array Value} {x : Value} {Q : Option Value → Shared → Prop} (hit : BMIter s.heap k it l i)
    (hl : BMSeq s.heap k l items) (hx : items[i]? = some x)
    (hQ : ∀ h', BMIter h' k it l (i + 1) → Heap.SameBut it s.heap h' → Q (some x) { s with heap := h' }) :
    wpAny (model prog w) A (Builtin.SmallTypes.nextOrEnd (.ref it)) Q E s := by
  unfold Builtin.SmallTypes.nextOrEnd
  exact wpAny_bind (wpAny_attempt (BMnx_item hit hl hx fun h' h1 h2 => wpAny_pure (hQ h' h1 h2)))
theorem BMne_end {k : Bool} {it l : Addr} {i : Nat} {items : Array Value} {Q : Option Value → Shared → Prop} (hh : A.handled = none) (hit : BMIter s.heap k it l i)
    (hl : BMSeq s.heap k l items) (hx : items[i]? = none)
    (hQ : ∀ h', Heap.ExtBut it s.heap h' → Q none { s with heap := h' }) :
    wpAny (model prog w) A (Builtin.SmallTypes.nextOrEnd (.ref it)) Q E s := by
  unfold Builtin.SmallTypes.nextOrEnd
  refine wpAny_bind (wpAny_attempt (BMnx_end hh hit hl hx fun h' e h1 he => ?_))
  obtain ⟨o, ho, hc⟩ := he
  refine wpAny_bind (wpAny_isInstance (T := "StopIteration") (b := true) ⟨o, ho, hc⟩ isSubtype_stop ?_)
  exact wpAny_pure (hQ _ h1)
theorem BMzip_next_item {k1 k2 : Bool} {z TI TO i1 i2 l1 l2 : Addr} {j1 j2 : Nat} {xs ys : Array Value} {x y a b : Value} {Q : Value → Shared → Prop} (D : ZipApart z TI TO i1 i2 l1 l2)
    (hz : BMZip s.heap z TI TO .none) (hTI : IsPair s.heap TI (.ref i1) (.ref i2)) (hTO : IsPair s.heap TO a b)
    (h1 : BMIter s.heap k1 i1 l1 j1) (h2 : BMIter s.heap k2 i2 l2 j2) (hl1 : BMSeq s.heap k1 l1 xs) (hl2 : BMSeq s.heap k2 l2 ys) (hx : xs[j1]? = some x) (hy : ys[j2]? = some y)
    (hQ : ∀ h', BMZip h' z TI TO (rawInt s.heap.objs.size) → IsPair h' TO x y → BMIter h' k1 i1 l1 (j1 + 1) → BMIter h' k2 i2 l2 (j2 + 1) → IsPair h' s.heap.objs.size x y → h'.objs.size = s.heap.objs.size + 1 →
      (∀ c o, c ≠ z → c ≠ TO → c ≠ i1 → c ≠ i2 → s.heap.get? c = some o → h'.get? c = some o) → Q (.ref s.heap.objs.size) { s with heap := h' }) :
    wpAny (model prog w) A (Builtin.«zip.__next__» ⟨[.ref z], []⟩) (fun fin s' => ∃ v, fin = .done (.ret v) ∧ Q v s') E s := by
  show wpAny _ _ (field (.ref z) 2 >>= _) _ _ _
  refine wpAny_bind (wpAny_field hz rfl (x := .bool true) rfl ?_)
  show wpAny _ _ (field (.ref z) 3 >>= _) _ _ _
  refine wpAny_bind (wpAny_field hz rfl (x := .ref TI) rfl ?_)
  refine wpAny_bind (wpAny_seqItems hTI rfl ?_)
  show wpAny _ _ (Builtin.SmallTypes.ownedTupleIsFree (.ref z) >>= _) _ _ _
  refine wpAny_bind ?_
  unfold Builtin.SmallTypes.ownedTupleIsFree
  refine wpAny_bind (wpAny_field hz rfl (x := .none) rfl (wpAny_pure ?_))
  simp only [if_true]
  refine wpAny_bind (wpAny_rule ?_)
  refine wpAny_bind (wpAny_field hz rfl (x := .ref TO) rfl ?_)
  refine wpAny_bind (wpAny_setField_rec hz (by simp) fun h₁ hz₁ hs₁ => ?_)
  replace hz₁ : BMZip h₁ z TI TO .ellipsis := hz₁
  refine wpAny_bind ?_
  simp only [List.zipIdx_cons, List.zipIdx_nil, List.forIn_cons, List.forIn_nil]
  refine wpAny_bind (wpAny_bind (wpAny_onRaise ?_))
  show wpAny _ _ (Builtin.SmallTypes.nextOrEnd (.ref i1)) _ _ _
  refine BMne_item (h1.extBut hs₁.extBut D.i1z) (hl1.extBut hs₁.extBut D.l1z) hx fun h₂ h1₂ hs₂ => ?_
  have hTO₂ : IsPair h₂ TO a b := hs₂.extBut _ _ D.TOi1 (hs₁.extBut _ _ D.TOz hTO)
  refine wpAny_bind (wpAny_seqItems hTO₂ rfl ?_)
  refine wpAny_bind (wpAny_updateSeq_pair hTO₂ fun h₃ hTO₃ hs₃ => ?_)
  replace hTO₃ : IsPair h₃ TO x b := hTO₃
  refine wpAny_bind (wpAny_letGo (wpAny_pure ?_))
  refine wpAny_bind (wpAny_bind (wpAny_onRaise ?_))
  show wpAny _ _ (Builtin.SmallTypes.nextOrEnd (.ref i2)) _ _ _
  refine BMne_item (((h2.extBut hs₁.extBut D.i2z).extBut hs₂.extBut D.i12.symm).extBut hs₃.extBut D.TOi2.symm)
    (((hl2.extBut hs₁.extBut D.l2z).extBut hs₂.extBut D.l2i1).extBut hs₃.extBut D.l2TO) hy fun h₄ h2₄ hs₄ => ?_
  have hTO₄ : IsPair h₄ TO x b := hs₄.extBut _ _ D.TOi2 hTO₃
  refine wpAny_bind (wpAny_seqItems hTO₄ rfl ?_)
  refine wpAny_bind (wpAny_updateSeq_pair hTO₄ fun h₅ hTO₅ hs₅ => ?_)
  replace hTO₅ : IsPair h₅ TO x y := hTO₅
  refine wpAny_bind (wpAny_letGo (wpAny_pure (wpAny_pure ?_)))
  refine wpAny_bind (wpAny_seqItems hTO₅ rfl ?_)
  refine wpAny_bind (wpAny_newTuple ?_)
  have hsz : h₅.objs.size = s.heap.objs.size := by rw [hs₅.1, hs₄.1, hs₃.1, hs₂.1, hs₁.1]
  have hz₅ : BMZip h₅ z TI TO .ellipsis := hs₅.extBut _ _ D.TOz.symm (hs₄.extBut _ _ D.i2z.symm (hs₃.extBut _ _ D.TOz.symm (hs₂.extBut _ _ D.i1z.symm hz₁)))
  have hk₅ : ∀ c o, c ≠ z → c ≠ TO → c ≠ i1 → c ≠ i2 → s.heap.get? c = some o → h₅.get? c = some o := fun c o c1 c2 c3 c4 e =>
    hs₅.extBut _ _ c2 (hs₄.extBut _ _ c4 (hs₃.extBut _ _ c2 (hs₂.extBut _ _ c3 (hs₁.extBut _ _ c1 e))))
  have h1₅ : BMIter h₅ k1 i1 l1 (j1 + 1) := ((h1₂.extBut hs₃.extBut D.TOi1.symm).extBut hs₄.extBut D.i12).extBut hs₅.extBut D.TOi1.symm
  have h2₅ : BMIter h₅ k2 i2 l2 (j2 + 1) := h2₄.extBut hs₅.extBut D.TOi2.symm
  have hzlt : z < h₅.objs.size := Heap.lt_size hz₅
  have hTOlt : TO < h₅.objs.size := Heap.lt_size hTO₅
  show wpAny _ _ (Builtin.SmallTypes.ownedTupleHandOut (.ref z) (.ref h₅.objs.size) >>= _) _ _ _
  refine wpAny_bind ?_
  unfold Builtin.SmallTypes.ownedTupleHandOut
  have hz₆ : BMZip (h₅.push { cls := .type "tuple", data := .seq #[x, y] }) z TI TO .ellipsis := Heap.get?_push_of_some _ hz₅
  refine wpAny_bind (wpAny_setField_rec hz₆ (by simp) fun h₇ hz₇ hs₇ => ?_)
  replace hz₇ : BMZip h₇ z TI TO (rawInt h₅.objs.size) := hz₇
  refine wpAny_setField_rec hz₇ (by simp) fun h₈ hz₈ hs₈ => ?_
  replace hz₈ : BMZip h₈ z TI TO (rawInt h₅.objs.size) := hz₈
  have up : ∀ c o, c ≠ z → h₅.get? c = some o → h₈.get? c = some o := fun c o c1 e => hs₈.extBut _ _ c1 (hs₇.extBut _ _ c1 (Heap.get?_push_of_some _ e))
  have hT₈ : IsPair h₈ h₅.objs.size x y := hs₈.extBut _ _ (Nat.ne_of_gt hzlt) (hs₇.extBut _ _ (Nat.ne_of_gt hzlt) (Heap.get?_push_size _ rfl))
  have hz8 : h₈.objs.size = h₅.objs.size + 1 := by rw [hs₈.1, hs₇.1, Heap.size_push]
  rw [hsz] at hz₈ hT₈ hz8
  refine wpAny_pure ⟨_, rfl, ?_⟩
  show Q (.ref h₅.objs.size) _
  rw [hsz]
  exact hQ h₈ hz₈ (up _ _ D.TOz hTO₅) (h1₅.at fun o e => up _ o D.i1z e) (h2₅.at fun o e => up _ o D.i2z e) hT₈ hz8 fun c o c1 c2 c3 c4 e => up c o c1 (hk₅ c o c1 c2 c3 c4 e)
/-- both are at their end -/
theorem BMzip_next_end {k1 k2 : Bool} {z TI TO i1 i2 l1 l2 : Addr} {j1 j2 : Nat} {xs ys : Array Value} {a b : Value} {Q : Fin → Shared → Prop} (hh : A.handled = none) (D : ZipApart z TI TO i1 i2 l1 l2)
    (hz : BMZip s.heap z TI TO .none) (hTI : IsPair s.heap TI (.ref i1) (.ref i2)) (hTO : IsPair s.heap TO a b)
    (h1 : BMIter s.heap k1 i1 l1 j1) (h2 : BMIter s.heap k2 i2 l2 j2) (hl1 : BMSeq s.heap k1 l1 xs) (hl2 : BMSeq s.heap k2 l2 ys) (hx : xs[j1]? = none) (hy : ys[j2]? = none)
    (hE : ∀ h' e, (∀ c o, c ≠ z → c ≠ TO → c ≠ i1 → c ≠ i2 → s.heap.get? c = some o → h'.get? c = some o) → (∃ o, h'.get? e = some o ∧ o.cls = .type "StopIteration") → E (.ref e) { s with heap := h' }) :
    wpAny (model prog w) A (Builtin.«zip.__next__» ⟨[.ref z], []⟩) Q E s := by
  show wpAny _ _ (field (.ref z) 2 >>= _) _ _ _
  refine wpAny_bind (wpAny_field hz rfl (x := .bool true) rfl ?_)
  show wpAny _ _ (field (.ref z) 3 >>= _) _ _ _
  refine wpAny_bind (wpAny_field hz rfl (x := .ref TI) rfl ?_)
  refine wpAny_bind (wpAny_seqItems hTI rfl ?_)
  show wpAny _ _ (Builtin.SmallTypes.ownedTupleIsFree (.ref z) >>= _) _ _ _
  refine wpAny_bind ?_
  unfold Builtin.SmallTypes.ownedTupleIsFree
  refine wpAny_bind (wpAny_field hz rfl (x := .none) rfl (wpAny_pure ?_))
  simp only [if_true]
  refine wpAny_bind (wpAny_rule ?_)
  refine wpAny_bind (wpAny_field hz rfl (x := .ref TO) rfl ?_)
  refine wpAny_bind (wpAny_setField_rec hz (by simp) fun h₁ hz₁ hs₁ => ?_)
  replace hz₁ : BMZip h₁ z TI TO .ellipsis := hz₁
  refine wpAny_bind ?_
  simp only [List.zipIdx_cons, List.zipIdx_nil, List.forIn_cons, List.forIn_nil]
  refine wpAny_bind (wpAny_bind (wpAny_onRaise ?_))
  show wpAny _ _ (Builtin.SmallTypes.nextOrEnd (.ref i1)) _ _ _
  refine BMne_end hh (h1.extBut hs₁.extBut D.i1z) (hl1.extBut hs₁.extBut D.l1z) hx fun h₂ hs₂ => ?_
  have hz₂ : BMZip h₂ z TI TO .ellipsis := hs₂ _ _ D.i1z.symm hz₁
  refine wpAny_bind (wpAny_setField_rec hz₂ (by simp) fun h₃ _ hs₃ => ?_)
  have h2₃ : BMIter h₃ k2 i2 l2 j2 := ((h2.extBut hs₁.extBut D.i2z).extBut hs₂ D.i12.symm).extBut hs₃.extBut D.i2z
  have hl2₃ : BMSeq h₃ k2 l2 ys := ((hl2.extBut hs₁.extBut D.l2z).extBut hs₂ D.l2i1).extBut hs₃.extBut D.l2z
  refine wpAny_bind ?_
  show wpAny _ _ (forIn [((Value.ref i2, 1) : Value × Nat)] _ _ >>= _) _ _ _
  refine wpAny_bind ?_
  simp only [List.forIn_cons, List.forIn_nil]
  refine wpAny_bind (wpAny_bind (BMne_end hh h2₃ hl2₃ hy fun h₄ hs₄ => ?_))
  refine wpAny_pure (wpAny_pure ?_)
  refine wpAny_bind (wpAny_rule ?_)
  show wpAny _ _ (newExc (.type "StopIteration") [] >>= _) _ _ _
  refine wpAny_bind ?_
  simp only [newExc, newTuple]
  refine wpAny_bind (wpAny_newObj_type ?_ (by size_fits))
  refine wpAny_bind (m := firstArgMember _ _) (wpAny_of_eq (a := Value.none) (by first | rfl | (simp only [firstArgMember]; rfl)) ?_)
  refine wpAny_newObj_type ?_ (by size_fits)
  simp only [raiseNew]
  refine wpAny_bind (wpAny_handled ?_)
  rw [hh]
  refine wpAny_bind (wpAny_pure (wpAny_throw ?_))
  refine hE _ _ (fun c o c1 c2 c3 c4 e => Heap.get?_push_of_some _ (Heap.get?_push_of_some _ (hs₄ _ _ c4 (hs₃.extBut _ _ c1 (hs₂ _ _ c3 (hs₁.extBut _ _ c1 e)))))) ⟨_, Heap.get?_push_size _ rfl, rfl⟩
end
end PySem

set_option Elab.async false
set_option linter.all false
set_option maxRecDepth 100000
set_option maxHeartbeats 4000000
/-! BM, part 41: zip(x, y, strict=True): the iterator made and walked, and the rule. -/
namespace PySem
open Sem (wp)
section
variable {prog : Program} {w : World} {A : Around} {E : Value → Shared → Prop} {s : Shared}
theorem BMpyNext_item {k1 k2 : Bool} {z TI TO i1 i2 l1 l2 : Addr} {j1 j2 : Nat} {xs ys : Array Value} {x y a b : Value} {Q : Option Value → Shared → Prop} (D : ZipApart z TI TO i1 i2 l1 l2)
    (hz : BMZip s.heap z TI TO .none) (hTI : IsPair s.heap TI (.ref i1) (.ref i2)) (hTO : IsPair s.heap TO a b)
    (h1 : BMIter s.heap k1 i1 l1 j1) (h2 : BMIter s.heap k2 i2 l2 j2) (hl1 : BMSeq s.heap k1 l1 xs) (hl2 : BMSeq s.heap k2 l2 ys) (hx : xs[j1]? = some x) (hy : ys[j2]? = some y)
    (hQ : ∀ h', BMZip h' z TI TO (rawInt s.heap.objs.size) → IsPair h' TO x y → BMIter h' k1 i1 l1 (j1 + 1) → BMIter h' k2 i2 l2 (j2 + 1) → IsPair h' s.heap.objs.size x y → h'.objs.size = s.heap.objs.size + 1 →
      (∀ c o, c ≠ z → c ≠ TO → c ≠ i1 → c ≠ i2 → s.heap.get? c = some o → h'.get? c = some o) → Q (some (.ref s.heap.objs.size)) { s with heap := h' }) :
    wpAny (model prog w) A (pyNext (.ref z)) Q E s := by
  have hT : s.TypeIs (.ref z) "zip" := ⟨_, hz, rfl⟩
  unfold pyNext
  exact wpAny_bind (wpAny_attempt (wpAny_callSpecial?_slot (name := Str.ofString "__next__") hT F.slot_zip_next
    (wpAny_call_entry F.slot_zip_next hT F.entry_zip_next
      (BMzip_next_item D hz hTI hTO h1 h2 hl1 hl2 hx hy fun h' a1 a2 a3 a4 a5 a6 a7 => wpAny_pure (hQ h' a1 a2 a3 a4 a5 a6 a7)) (F.args_zip_next_1 _))))
theorem BMpyNext_end {k1 k2 : Bool} {z TI TO i1 i2 l1 l2 : Addr} {j1 j2 : Nat} {xs ys : Array Value} {a b : Value} {Q : Option Value → Shared → Prop} (hh : A.handled = none) (D : ZipApart z TI TO i1 i2 l1 l2)
    (hz : BMZip s.heap z TI TO .none) (hTI : IsPair s.heap TI (.ref i1) (.ref i2)) (hTO : IsPair s.heap TO a b)
    (h1 : BMIter s.heap k1 i1 l1 j1) (h2 : BMIter s.heap k2 i2 l2 j2) (hl1 : BMSeq s.heap k1 l1 xs) (hl2 : BMSeq s.heap k2 l2 ys) (hx : xs[j1]? = none) (hy : ys[j2]? = none)
    (hQ : ∀ h', (∀ c o, c ≠ z → c ≠ TO → c ≠ i1 → c ≠ i2 → s.heap.get? c = some o → h'.get? c = some o) → Q none { s with heap := h' }) : wpAny (model prog w) A (pyNext (.ref z)) Q E s := by
  have hT : s.TypeIs (.ref z) "zip" := ⟨_, hz, rfl⟩
  unfold pyNext
  refine wpAny_bind (wpAny_attempt (wpAny_callSpecial?_slot (name := Str.ofString "__next__") hT F.slot_zip_next
    (wpAny_call_entry F.slot_zip_next hT F.entry_zip_next (BMzip_next_end hh D hz hTI hTO h1 h2 hl1 hl2 hx hy fun h' e hk he => ?_) (F.args_zip_next_1 _))))
  obtain ⟨o, ho, hc⟩ := he
  refine wpAny_bind (wpAny_isInstance (T := "StopIteration") (b := true) ⟨o, ho, hc⟩ isSubtype_stop ?_)
  exact wpAny_pure (hQ _ hk)
theorem BMgo_zip {elts : List Expr} {x1} {pos : Pos} {z TI TO T : Addr} {Q : Unit → Shared → Prop} (hz : BMZip s.heap z TI TO (rawInt T))
    (hQ : ∀ h', BMZip h' z TI TO .none → Heap.SameBut z s.heap h' → Q () { s with heap := h' }) :
    wpAny (model prog w) A (letOwnedTupleGo (.Tuple elts x1 pos) (.ref z) (.ref T)) Q E s := by
  unfold letOwnedTupleGo
  refine wpAny_bind (wpAny_load hz ?_)
  show wpAny _ _ (if (["enumerate", "zip", "dict_itemiterator", "dict_reverseitemiterator", "odict_iterator", "itertools.zip_longest", "itertools.pairwise"].contains "zip" &&
      (#[rawInt T, .bool false, .bool true, .ref TI, .ref TO] : Array Value)[0]? == some (rawInt T)) = true then _ else _) Q E s
  rw [if_pos (by simp)]
  refine wpAny_bind (wpAny_rule ?_)
  show wpAny _ _ (setField (.ref z) 0 .none) Q E s
  exact wpAny_setField_rec hz (by simp) fun h' hz' hs' => hQ h' hz' hs'
theorem BMpyIter_zip {z TI TO : Addr} {f0 : Value} {Q : Value → Shared → Prop} (hz : BMZip s.heap z TI TO f0) (h : Q (.ref z) s) : wpAny (model prog w) A (pyIter (.ref z)) Q E s := by
  have hT : s.TypeIs (.ref z) "zip" := ⟨_, hz, rfl⟩
  refine wpAny_pyIter_slot hT F.slot_zip_iter (wpAny_call_entry F.slot_zip_iter hT F.entry_zip_iter ?_ (F.args_zip_iter_1 _))
  show wpAny _ _ (ret (.ref z)) _ _ s
  exact wpAny_pure ⟨_, rfl, "zip", _, hT, F.slot_zip_next.lookup, h⟩
end
theorem BMtypeCall_zip (a b c : Value) : checkTypeCall "zip" ⟨[a, b], [(Str.ofString "strict", c)]⟩ = pure () := by kernel_rfl
theorem BMnewCall_zip (a b c : Value) : checkBuiltinCall "zip.__new__" ⟨[.type "zip", a, b], [(Str.ofString "strict", c)]⟩ = pure () := by kernel_rfl
theorem BMargs_object_init (obj a b c : Value) : argsOk "object.__init__" ⟨[obj, a, b], [(Str.ofString "strict", c)]⟩ := by unfold argsOk; kernel_rfl
abbrev BMzZ (h : Heap) (o1 o2 : Obj) : Heap := (gzO2 h o1 o2).push { cls := .type "zip", data := .fields #[.none, .bool false, .bool true, .ref ((h.push o1).push o2).objs.size, .ref (gzT2 h o1 o2).objs.size] }
theorem BMmeets_zip_new {v1 v2 : Value} {o1 o2 : Obj} {H1 H2 : Heap → Prop} (B1 : Begins v1 o1 H1) (B2 : Begins v2 o2 H2) :
    Meets (Builtin.«zip.__new__» ⟨[.type "zip", v1, v2], [(Str.ofString "strict", .bool true)]⟩) (fun _ R s => (H1 s.heap ∧ H2 s.heap) ∧
      R (.ok (.ret (.ref (gzO2 s.heap o1 o2).objs.size))) { s with heap := BMzZ s.heap o1 o2 }) :=
  .of_wp fun prog w A R s h => by
    obtain ⟨hp, g, d, tk, os⟩ := s; obtain ⟨⟨h1, h2⟩, h⟩ := h
    have hsub := sub_zip
    have e2 : (Str.ofString "strict" != ("strict" : Str)) = false := by decide +kernel
    have q1 : ∀ {A' : Around} {E : Value → Shared → Prop} {Q : Value → Shared → Prop}, Q (.ref hp.objs.size) ⟨(hp.push o1), g, d, tk, os⟩ → wpAny (model prog w) A' (pyIter v1) Q E ⟨hp, g, d, tk, os⟩ :=
      fun q => B1.iter prog w _ _ ⟨hp, g, d, tk, os⟩ _ (B1.keeps _ _ h1 fun b o' e => e) q
    have q2 : ∀ {A' : Around} {E : Value → Shared → Prop} {Q : Value → Shared → Prop}, Q (.ref (hp.push o1).objs.size) ⟨((hp.push o1).push o2), g, d, tk, os⟩ → wpAny (model prog w) A' (pyIter v2) Q E ⟨(hp.push o1), g, d, tk, os⟩ :=
      fun q => B2.iter prog w _ _ ⟨(hp.push o1), g, d, tk, os⟩ _ (B2.keeps _ _ h2 fun b o' e => (Heap.get?_push_of_some _ e)) q
    wp_walk using q1, q2
    exact ⟨_, rfl, h⟩
section
variable {prog : Program} {w : World} {A : Around} {E : Value → Shared → Prop} {s : Shared}
theorem BMcall_zip {v1 v2 : Value} {o1 o2 : Obj} {H1 H2 : Heap → Prop} {Q : Value → Shared → Prop} (B1 : Begins v1 o1 H1) (B2 : Begins v2 o2 H2) (h1 : H1 s.heap) (h2 : H2 s.heap)
    (h : ∀ h', BMZip h' (s.heap.objs.size + 4) (s.heap.objs.size + 2) (s.heap.objs.size + 3) .none → IsPair h' (s.heap.objs.size + 2) (.ref s.heap.objs.size) (.ref (s.heap.objs.size + 1)) →
      IsPair h' (s.heap.objs.size + 3) .none .none → h'.get? s.heap.objs.size = some o1 → h'.get? (s.heap.objs.size + 1) = some o2 → h'.objs.size = s.heap.objs.size + 5 →
      (∀ c o, s.heap.get? c = some o → h'.get? c = some o) → Q (.ref (s.heap.objs.size + 4)) { s with heap := h' }) :
    wpAny (model prog w) A (call (.type "zip") [v1, v2] [(Str.ofString "strict", .bool true)]) Q E s := by
  refine callType_newKw F.called_zip (by decide) (BMtypeCall_zip _ _ _) (BMnewCall_zip _ _ _) (fun obj => BMargs_object_init obj _ _ _) F.entry_zip_new
    (BMmeets_zip_new B1 B2) ⟨⟨h1, h2⟩, ?_⟩
  have z1 : (s.heap.push o1).objs.size = s.heap.objs.size + 1 := by rw [Heap.size_push]
  have z2 : ((s.heap.push o1).push o2).objs.size = s.heap.objs.size + 2 := by rw [Heap.size_push, z1]
  have zT : (gzT2 s.heap o1 o2).objs.size = s.heap.objs.size + 3 := by rw [Heap.size_push, z2]
  have zO : (gzO2 s.heap o1 o2).objs.size = s.heap.objs.size + 4 := by rw [Heap.size_push, zT]
  have zZ : (BMzZ s.heap o1 o2).objs.size = s.heap.objs.size + 5 := by rw [Heap.size_push, zO]
  have gZ : (BMzZ s.heap o1 o2).get? (gzO2 s.heap o1 o2).objs.size = some { cls := .type "zip", data := .fields #[.none, .bool false, .bool true, .ref ((s.heap.push o1).push o2).objs.size, .ref (gzT2 s.heap o1 o2).objs.size] } := Heap.get?_push_size _ rfl
  have gO : (BMzZ s.heap o1 o2).get? (gzT2 s.heap o1 o2).objs.size = some { cls := .type "tuple", data := .seq #[.none, .none] } := Heap.get?_push_of_some _ (Heap.get?_push_size _ rfl)
  have gT : (BMzZ s.heap o1 o2).get? ((s.heap.push o1).push o2).objs.size = some { cls := .type "tuple", data := .seq #[.ref s.heap.objs.size, .ref (s.heap.push o1).objs.size] } := Heap.get?_push_of_some _ (Heap.get?_push_of_some _ (Heap.get?_push_size _ rfl))
  have g1 : (BMzZ s.heap o1 o2).get? s.heap.objs.size = some o1 := Heap.get?_push_of_some _ (Heap.get?_push_of_some _ (Heap.get?_push_of_some _ (Heap.get?_push_of_some _ (Heap.get?_push_size _ B1.free))))
  have g2 : (BMzZ s.heap o1 o2).get? (s.heap.push o1).objs.size = some o2 := Heap.get?_push_of_some _ (Heap.get?_push_of_some _ (Heap.get?_push_of_some _ (Heap.get?_push_size _ B2.free)))
  rw [zO, zT, z2] at gZ
  rw [zT] at gO
  rw [z2, z1] at gT
  rw [z1] at g2
  show _ ∧ _
  rw [zO]
  exact ⟨⟨_, gZ, rfl⟩, h _ gZ gT gO g1 g2 zZ fun c o e => Heap.get?_push_of_some _ (Heap.get?_push_of_some _ (Heap.get?_push_of_some _ (Heap.get?_push_of_some _ (Heap.get?_push_of_some _ e))))⟩
theorem BMcallWith_type_kw {M : Model} {env : Env} {pos : Pos} {T : String} {e : Expr} {rest : List Expr} {kws : List Keyword} {Q : Value → Shared → Prop}
    (h : wpAny M A (spliced (backTo pos (starEach (e :: rest) env))) (fun vs s₁ => wpAny M A (evalAll ((backToKw pos (keywordEach kws env)).map (·.2)))
      (fun kvs s₂ => wpAny M A (call (.type T) vs (((backToKw pos (keywordEach kws env)).filterMap (·.1)).zip kvs)) Q E s₂) E s₁) E s)
    (he : starEach (e :: rest) env = (false, eval e env) :: starEach rest env)
    (hplain : (backTo pos (starEach (e :: rest) env)).any (·.1) = false)
    (hall : (backToKw pos (keywordEach kws env)).all (·.1.isSome) = true)
    (hkw : (backToKw pos (keywordEach kws env)).any (·.1.isNone) = false) :
    wpAny M A (callWith pos (.type T) [] (backTo pos (starEach (e :: rest) env)) (backToKw pos (keywordEach kws env))) Q E s := by
  have h' : wpAny M A (evalArgs (.type T) true (backTo pos (starEach (e :: rest) env)) (backToKw pos (keywordEach kws env))) (fun a s₁ => wpAny M A (call (.type T) ([] ++ a.pos) a.kw) Q E s₁) E s := by
    rw [he] at h ⊢
    exact PyProof.Rows.evalArgs_kwB hall h
  unfold callWith
  refine wpAny_bind (wpAny_holding (wpAny_mono h' (fun a s₁ h₁ => wpAny_bind (wpAny_standAt ?_)) fun _ _ x => x))
  simp only [hplain, hkw, Bool.or_false]
  refine wpAny_bind (wpAny_pure ?_)
  exact wpAny_bind (wpAny_mono h₁ (fun r s₂ hr => wpAny_bind (wpAny_holding (wpAny_point (wpAny_pure hr)))) fun _ _ x => x)
end
end PySem
namespace BM
open PySem PySem.Spec PyProof.Rows L2
/-- a tracked list (false) or tuple (true) -/
def SqB (K : PySem.W.Frag) (H : Hp) (k : Bool) (a : Addr) (xs : List V) : Prop := match k with
  | true => SqT K H a xs
  | false => SqL K H a xs
theorem inv_seqB {X : Cx} {pins : List (Addr × Obj)} {σ : L2.St} {H : Hp} {s : Shared} (I : Inv X pins σ H s) {k : Bool} {a : Addr} {xs : List V} (h : SqB X.K H k a xs) :
    ∃ its : List Value, Vals xs its ∧ BMSeq s.heap k a its.toArray := by
  cases k
  · obtain ⟨its, rv, p, _⟩ := I.list h
    exact ⟨its, rv, p.isList⟩
  · obtain ⟨its, rv, p, _⟩ := I.tuple h
    exact ⟨its, rv, p⟩
theorem inv_seqB_inj {X : Cx} {pins : List (Addr × Obj)} {σ : L2.St} {H : Hp} {s : Shared} (I : Inv X pins σ H s) {k : Bool} {a : Addr} {xs ys : List V} (h : SqB X.K H k a xs) (h' : SqB X.K H k a ys) : xs = ys := by
  cases k
  · exact I.list_inj h h'
  · exact I.tuple_inj h h'
def ItzS (K : PySem.W.Frag) (ka : Bool) (a : Addr) (kb : Bool) (b : Addr) : L2.It :=
  ⟨fun i H => ∃ (xs ys : List V) (x y : V), SqB K H ka a xs ∧ SqB K H kb b ys ∧ xs[i]? = some x ∧ ys[i]? = some y,
    fun i H v H' => ∃ T x y, v = .ref T ∧ H T = none ∧ H' = upd H T (.tup [x, y]) ∧ (∀ xs, SqB K H ka a xs → xs[i]? = some x) ∧ ∀ ys, SqB K H kb b ys → ys[i]? = some y,
    fun i H => ∃ xs ys : List V, SqB K H ka a xs ∧ SqB K H kb b ys ∧ xs.length ≤ i ∧ ys.length ≤ i⟩
theorem turn_zipS {P : Program} {w : World} {K : PySem.W.Frag} {elts : List Expr} {kk : Nat} {tpos : Pos} {ka kb : Bool} {a b z TI TO i1 i2 : Addr} (D : ZipApart z TI TO i1 i2 a b) :
    Turn P w K (.Tuple elts kk tpos) (ItzS K ka a kb b) [z, TI, TO, i1, i2] z (fun i h => BMZip h z TI TO .none ∧ IsPair h TI (.ref i1) (.ref i2) ∧ (∃ x y, IsPair h TO x y) ∧ BMIter h ka i1 a i ∧ BMIter h kb i2 b i) where
  mem := by simp
  obj := fun i h st c hc => by
    obtain ⟨hz, hTI, ⟨x, y, hTO⟩, h1, h2⟩ := st
    obtain ⟨o1, e1, _, d1⟩ := h1.ex
    obtain ⟨o2, e2, _, d2⟩ := h2.ex
    have e' : c = z ∨ c = TI ∨ c = TO ∨ c = i1 ∨ c = i2 := by simpa using hc
    rcases e' with q | q | q | q | q
    · rw [q]; exact ⟨_, hz, fun v q => nomatch q⟩
    · rw [q]; exact ⟨_, hTI, fun v q => nomatch q⟩
    · rw [q]; exact ⟨_, hTO, fun v q => nomatch q⟩
    · rw [q]; exact ⟨o1, e1, fun v q => by rw [d1] at q; cases q⟩
    · rw [q]; exact ⟨o2, e2, fun v q => by rw [d2] at q; cases q⟩
  keep := fun i h h' st k => by
    obtain ⟨hz, hTI, ⟨x, y, hTO⟩, h1, h2⟩ := st
    exact ⟨k z (by simp) _ hz, k TI (by simp) _ hTI, ⟨x, y, k TO (by simp) _ hTO⟩, h1.at fun o q => k i1 (by simp) o q, h2.at fun o q => k i2 (by simp) o q⟩
  item := by
    intro X hP hw hK hc i pins s σ H E I hf st hg
    subst hP hw hK
    obtain ⟨hz, hTI, ⟨x0, y0, hTO⟩, h1, h2⟩ := st
    obtain ⟨xs, ys, x, y, hqx, hqy, hx, hy⟩ := hg
    obtain ⟨its, rv, p⟩ := inv_seqB I hqx
    obtain ⟨its2, rv2, p2⟩ := inv_seqB I hqy
    obtain ⟨u, hu, ru⟩ := rv.get hx
    obtain ⟨u2, hu2, ru2⟩ := rv2.get hy
    have hzl : z < s.heap.objs.size := Heap.lt_size hz
    have hTIl : TI < s.heap.objs.size := Heap.lt_size hTI
    have hTOl : TO < s.heap.objs.size := Heap.lt_size hTO
    have hi1l : i1 < s.heap.objs.size := by obtain ⟨o1, e1, _⟩ := h1.ex; exact Heap.lt_size e1
    have hi2l : i2 < s.heap.objs.size := by obtain ⟨o1, e1, _⟩ := h2.ex; exact Heap.lt_size e1
    refine BMpyNext_item D hz hTI hTO h1 h2 p p2 (x := u) (y := u2) (by simpa using hu) (by simpa using hu2) fun h' z' TO' h1' h2' hT hsz hk => ?_
    refine ⟨_, rfl, BMgo_zip (s := { s with heap := h' }) z' fun h'' z'' sb => ?_⟩
    have hT2 : h''.get? s.heap.objs.size = some { cls := .type "tuple", data := .seq #[u, u2] } := (sb.2 _ (Nat.ne_of_gt hzl)).trans hT
    have new : ObjOk X.prog X.w (upd H s.heap.objs.size (.tup [x, y])) h'' s.heap.objs.size (.tup [x, y]) :=
      ⟨by show 2 ≤ sizeLine; decide, [u, u2], .cons ru (.cons ru2 .nil), ⟨_, hT2, rfl, _, rfl⟩⟩
    have I1 : L2.Inv X pins σ (upd H s.heap.objs.size (.tup [x, y])) { s with heap := h'' } :=
      I.turnedNew (t' := s.toks) (ch := [z, TI, TO, i1, i2]) (fun c o hb q => (sb.2 c (fun q' => hb (by simp [q']))).trans (hk c o (fun q' => hb (by simp [q'])) (fun q' => hb (by simp [q'])) (fun q' => hb (by simp [q'])) (fun q' => hb (by simp [q'])) q)) hf (Nat.le_refl _) new
    refine ⟨.ref s.heap.objs.size, _, I1, rfl, ⟨_, x, y, rfl, I.hok.fresh (Nat.le_refl _), rfl, fun l hl => by rw [inv_seqB_inj I hl hqx]; exact hx, fun l hl => by rw [inv_seqB_inj I hl hqy]; exact hy⟩, ⟨z'', ?_, ⟨u, u2, ?_⟩, ?_, ?_⟩, fun c hcm => ?_⟩
    · exact (sb.2 _ D.TIz).trans (hk _ _ D.TIz D.TITO D.TIi1 D.TIi2 hTI)
    · exact (sb.2 _ D.TOz).trans TO'
    · exact h1'.at fun o q => (sb.2 _ D.i1z).trans q
    · exact h2'.at fun o q => (sb.2 _ D.i2z).trans q
    · have hlt : c < s.heap.objs.size := by
        have e' : c = z ∨ c = TI ∨ c = TO ∨ c = i1 ∨ c = i2 := by simpa using hcm
        rcases e' with q | q | q | q | q
        · rw [q]; exact hzl
        · rw [q]; exact hTIl
        · rw [q]; exact hTOl
        · rw [q]; exact hi1l
        · rw [q]; exact hi2l
      rw [upd_ne (Nat.ne_of_lt hlt)]
      exact (hf c hcm).1
  done := by
    intro X hP hw hK hc i pins s σ H E I hf st hg
    subst hP hw hK
    obtain ⟨hz, hTI, ⟨x0, y0, hTO⟩, h1, h2⟩ := st
    obtain ⟨xs, ys, hqx, hqy, he1, he2⟩ := hg
    obtain ⟨its, rv, p⟩ := inv_seqB I hqx
    obtain ⟨its2, rv2, p2⟩ := inv_seqB I hqy
    have l1 := rv.length
    have l2 := rv2.length
    exact BMpyNext_end (I.ok.hd hc) D hz hTI hTO h1 h2 p p2 (by simp; omega) (by simp; omega) fun h' hk => ⟨rfl, I.turnedL (t' := s.toks) (ch := [z, TI, TO, i1, i2]) (fun c o hb q =>
      hk c o (fun q' => hb (by simp [q'])) (fun q' => hb (by simp [q'])) (fun q' => hb (by simp [q'])) (fun q' => hb (by simp [q'])) q) hf⟩
  self := fun A i s Q E st h => BMpyIter_zip st.1 h
def iZipSt (K : PySem.W.Frag) (ta : TA) : TI := fun σ H R => ta σ H fun vs H1 => ∃ ka a kb b xs ys, vs = [.ref a, .ref b] ∧ SqB K H1 ka a xs ∧ SqB K H1 kb b ys ∧ R (ItzS K ka a kb b) H1
theorem pi_zipS {X : Cx} {e e2 : Expr} {ta : TA} {p pos tpos cp kp : Pos} {elts : List Expr} {j kk : Nat} (hg : Gl X "zip") (hm : X.mg "zip" = none) (ha : PA X [e, e2] ta)
    (hs : starEach [e, e2] X.env = (false, eval e X.env) :: starEach [e2] X.env) (hpl : (backTo pos (starEach [e, e2] X.env)).any (·.1) = false) :
    PI X (.Tuple elts kk tpos) (.Call (.Name "zip" p) [e, e2] [⟨some "strict", .Constant (.bool true) j cp, kp⟩] pos) (iZipSt X.K ta) := by
  refine ⟨fun pins s σ H R I h => ?_⟩
  refine wpAny_Call_Name_kw (ld_blt I hg hm PyProof.Rows.boot_zip ?_)
  refine BMcallWith_type_kw (thn (ha.run pos pins s σ H _ I h) fun us s1 ⟨vs, H1, I1, r1, q1⟩ => ?_) hs hpl rfl rfl
  refine PyProof.Rows.kws_cons (thn ((pe_bl (X := X) (j := j) (pos := cp)).run pins s1 σ H1 (fun v H => v = .bl true ∧ H = H1) I1 ⟨rfl, rfl⟩) fun u s2 ⟨v, H2, I2, rv, ev, eH⟩ => ?_)
  subst ev
  subst eH
  cases rv
  refine PyProof.Rows.kws_nil ?_
  show wpAny _ _ (call (.type "zip") us [(Str.ofString "strict", .bool true)]) _ _ _
  obtain ⟨ka, a, kb, b, xs, ys, ex, hqx, hqy, q⟩ := q1
  subst ex
  cases r1 with
  | cons r rr =>
    cases rr with
    | cons r' rr =>
      cases rr
      cases r
      cases r'
      obtain ⟨its, rv, p1⟩ := inv_seqB I2 hqx
      obtain ⟨its2, rv2, p2⟩ := inv_seqB I2 hqy
      have la : a < s2.heap.objs.size := by obtain ⟨o, e⟩ := p1.ex; exact Heap.lt_size e
      have lb : b < s2.heap.objs.size := by obtain ⟨o, e⟩ := p2.ex; exact Heap.lt_size e
      refine BMcall_zip (BMbegins ka a _) (BMbegins kb b _) p1 p2 fun h' hz hTI hTO h1 h2 hsz hk => BMpyIter_zip hz ?_
      have I3 : L2.Inv X pins σ _ { s2 with heap := h' } := I2.kept (t' := s2.toks) hk
      refine ⟨s2.heap.objs.size + 4, [s2.heap.objs.size + 4, s2.heap.objs.size + 2, s2.heap.objs.size + 3, s2.heap.objs.size, s2.heap.objs.size + 1], _, _, _, rfl, I3, turn_zipS (PySem.W.ktu_apart s2.heap.objs.size a b la lb), ⟨hz, hTI, ⟨_, _, hTO⟩, .of h1, .of h2⟩, fun c hcm => ?_, q⟩
      have e' : c = s2.heap.objs.size + 4 ∨ c = s2.heap.objs.size + 2 ∨ c = s2.heap.objs.size + 3 ∨ c = s2.heap.objs.size ∨ c = s2.heap.objs.size + 1 := by simpa using hcm
      have hle : s2.heap.objs.size ≤ c := by
        rcases e' with z | z | z | z | z
        · rw [z]; exact Nat.le_add_right _ _
        · rw [z]; exact Nat.le_add_right _ _
        · rw [z]; exact Nat.le_add_right _ _
        · rw [z]; exact Nat.le_refl _
        · rw [z]; exact Nat.le_add_right _ _
      exact I2.fpOk hle (I2.hok.fresh hle)
/-! ### the word -/
def zipD (l1 l2 : List D) : List D := List.zipWith (fun x y => D.tup [x, y]) l1 l2
theorem zipD_at {l1 l2 : List D} {i : Nat} (h : i < (zipD l1 l2).length) (h1 : i < l1.length) (h2 : i < l2.length) : (zipD l1 l2)[i] = .tup [l1[i], l2[i]] := List.getElem_zipWith (f := fun x y => D.tup [x, y]) (h := h)
def iZipS (m1 m2 : M O) : M (List D) := fun s => match mArgs [m1, m2] s with
  | some ([o1, o2], s') => match listOfD o1.toD, listOfD o2.toD with
    | some l1, some l2 => if l1.length = l2.length then some (zipD l1 l2, s') else none
    | _, _ => none
  | _ => none
def isTup : D → Bool
  | .tup _ => true
  | _ => false
/-- a frozen sequence, read -/
theorem St.read_seq {K : PySem.W.Frag} {H : Hp} {L : List It} {d : D} {l : List D} {v : V} (hl : listOfD d = some l) (h : St K H (.rep (.d d) v :: L)) :
    ∃ k a vs, v = .ref a ∧ SqB K H k a vs ∧ k = isTup d ∧ l.length = vs.length ∧ St K H (reps (leaf l) vs ++ (.rep (.d d) v :: L)) := by
  cases d with
  | lst l' =>
    cases hl
    obtain ⟨a, vs, e1, h1, h2, h3⟩ := h.read_lst
    exact ⟨false, a, vs, e1, h1, rfl, h2, h3⟩
  | tup l' =>
    cases hl
    obtain ⟨a, vs, e1, h1, h2, h3⟩ := h.read_tup
    exact ⟨true, a, vs, e1, h1, rfl, h2, h3⟩
  | _ => cases hl
section
variable {Γ : Gm} {e e2 tg : Expr} {m m2 : M O} {p pos tpos cp kp : Pos} {elts : List Expr} {j kk : Nat}
theorem si_zipS (h : Sar Γ [e, e2] (mArgs [m, m2])) (hn : NoStars [e, e2]) (hg : Γ.glo "zip" = true) (hmg : Γ.cfg.mg "zip" = none) :
    Si Γ (.Tuple elts kk tpos) (.Call (.Name "zip" p) [e, e2] [⟨some "strict", .Constant (.bool true) j cp, kp⟩] pos) (iZipS m m2) := ⟨fun X ok env ds env' hm σ H T hr R q => by
  unfold iZipS at hm
  split at hm
  · rename_i o1 o2 s1 q1
    split at hm
    · rename_i l1 l2 g1 g2
      split at hm
      · rename_i hl
        have e1 := Option.some.inj hm
        injection e1 with e1 e2
        subst e1 e2
        refine ⟨_, pi_zipS (ok.glo hg) (by rw [ok.hmg]; exact hmg) (pa_of hn) (ns_head hn _) (backTo_plain hn), ?_⟩
        unfold iZipSt
        refine h.run X ok env [o1, o2] s1 q1 σ H T hr _ fun vs H1 hvl r1 => ?_
        match vs, hvl with
        | [v1, v2], _ =>
          have r2 : RS Γ.cfg.K H1 s1 σ ([.rep (.d o1.toD) v1, .rep (.d o2.toD) v2] ++ T) := by
            have r1 : RS Γ.cfg.K H1 s1 σ (.rep o1 v1 :: (.rep o2 v2 :: T)) := r1
            exact ((r1.freeze.perm (.swap _ _ _)).freeze).perm (.swap _ _ _)
          have look : ∃ ka a kb b xs ys, v1 = .ref a ∧ v2 = .ref b ∧ SqB Γ.cfg.K H1 ka a xs ∧ SqB Γ.cfg.K H1 kb b ys ∧ ka = isTup o1.toD ∧ kb = isTup o2.toD := by
            obtain ⟨L, _, hS⟩ := r2
            obtain ⟨ka, a, xs, e1, h1, ek, _⟩ := St.read_seq (L := .rep (.d o2.toD) v2 :: (T ++ L)) g1 hS
            obtain ⟨kb, b, ys, e2, h2, ek2, _⟩ := St.read_seq (L := .rep (.d o1.toD) v1 :: (T ++ L)) g2 (hS.perm (.swap _ _ _))
            exact ⟨ka, a, kb, b, xs, ys, e1, e2, h1, h2, ek, ek2⟩
          obtain ⟨ka, a, kb, b, xs, ys, e1, e2, h1, h2, ek, ek2⟩ := look
          subst e1 e2
          refine ⟨ka, a, kb, b, xs, ys, rfl, by rw [ok.hK]; exact h1, by rw [ok.hK]; exact h2, ?_⟩
          have hz : (zipD l1 l2).length = l1.length := by unfold zipD; rw [List.length_zipWith]; omega
          refine q _ H1 [.rep (.d o1.toD) (.ref a), .rep (.d o2.toD) (.ref b)] ⟨fun i H2 L hi hS => ?_, fun H2 L hS => ?_, fun i H2 L x H' hi hS hy => ?_⟩ r2
          · obtain ⟨k1, a', us, c1, s1, c2, c3, c4⟩ := St.read_seq (L := .rep (.d o2.toD) (.ref b) :: L) g1 hS
            obtain ⟨k2, b', ws, d1, s2, d2, d3, d4⟩ := St.read_seq (L := .rep (.d o1.toD) (.ref a) :: L) g2 (hS.perm (.swap _ _ _))
            cases c1; cases d1
            rw [← c2] at ek; rw [← d2] at ek2
            subst ek ek2
            rw [hz] at hi
            rw [ok.hK]
            exact ⟨us, ws, us[i]'(by omega), ws[i]'(by omega), s1, s2, by simp [show i < us.length by omega], by simp [show i < ws.length by omega]⟩
          · obtain ⟨k1, a', us, c1, s1, c2, c3, c4⟩ := St.read_seq (L := .rep (.d o2.toD) (.ref b) :: L) g1 hS
            obtain ⟨k2, b', ws, d1, s2, d2, d3, d4⟩ := St.read_seq (L := .rep (.d o1.toD) (.ref a) :: L) g2 (hS.perm (.swap _ _ _))
            cases c1; cases d1
            rw [← c2] at ek; rw [← d2] at ek2
            subst ek ek2
            rw [ok.hK]
            exact ⟨us, ws, s1, s2, by omega, by omega⟩
          · obtain ⟨k1, a', us, c1, s1, c2, c3, c4⟩ := St.read_seq (L := .rep (.d o2.toD) (.ref b) :: L) g1 hS
            obtain ⟨k2, b', ws, d1, s2, d2, d3, d4⟩ := St.read_seq (L := .rep (.d o1.toD) (.ref a) :: L) g2 (hS.perm (.swap _ _ _))
            cases c1; cases d1
            rw [← c2] at ek; rw [← d2] at ek2
            subst ek ek2
            rw [ok.hK] at hy
            obtain ⟨T', x', y', rfl, hT, rfl, y1, y2⟩ := hy
            rw [hz] at hi
            have t1 := reps_pick c3 c4 hi (y1 us s1)
            have t2 : St Γ.cfg.K H2 (.rep (.d o2.toD) (.ref b) :: (.rep (.d l1[i]) x' :: .rep (.d o1.toD) (.ref a) :: L)) := t1.perm (((List.Perm.swap _ _ _).cons _).trans (List.Perm.swap _ _ _))
            obtain ⟨k3, b'', ws', f1, f2, f3, f4, f5⟩ := St.read_seq g2 t2
            cases f1
            rw [← f3] at d2
            subst d2
            have t3 := reps_pick f4 f5 (show i < l2.length by omega) (y2 ws' f2)
            have t4 : St Γ.cfg.K H2 (reps (leaf [l1[i], l2[i]]) [x', y'] ++ (.rep (.d o1.toD) (.ref a) :: .rep (.d o2.toD) (.ref b) :: L)) :=
              t3.perm (((List.Perm.swap _ _ _).cons _).trans ((List.Perm.swap _ _ _).trans (((List.Perm.swap _ _ _).cons _).cons _)))
            rw [zipD_at _ hi (show i < l2.length by omega)]
            exact St.newTup (ds := [l1[i], l2[i]]) (vs := [x', y']) rfl hT t4
      · cases hm
    · cases hm
  · cases hm⟩
end
end BM

set_option Elab.async false
set_option linter.all false
set_option maxRecDepth 100000
set_option maxHeartbeats 4000000
/-! BM, part 42: statements that are not reached (raise), walks over texts, list(text), str(list), join. -/
namespace BM
open PySem PySem.Spec PyProof.Rows L2
/-! ### a way that is not taken -/
def sFail : M Fl := mfail
theorem ss_fail {Γ : Gm} {st : Stmt} : Ss Γ st sFail [] := ⟨fun X ok env fl env' hm σ H T hr D q => nomatch (show (none : Option (Fl × Env)) = _ from hm)⟩
/-! ### the signs of a text -/
def sgs (x : Str) : List D := x.cps.toList.map fun c => D.str ⟨#[c]⟩
def seqD : D → Option (List D)
  | .lst l => some l
  | .tup l => some l
  | .str x => some (sgs x)
  | _ => none
theorem seqD_list {d : D} {l : List D} (h : listOfD d = some l) : seqD d = some l := by
  cases d <;> first | exact h | cases h
def iSX (m : M O) : M (List D) := fun s => match m s with
  | some (o, s') => match seqD o.toD with
    | some l => some (l, s')
    | none => none
  | none => none
theorem e_iSX (m : M O) (s : Env) : iSX m s = ob (m s) fun o s' => oo (seqD o.toD) fun l => some (l, s') := by
  unfold iSX ob oo
  cases m s with
  | none => rfl
  | some p => simp only; cases seqD p.1.toD <;> rfl
section
variable {Γ : Gm} {e tg : Expr} {m : M O}
theorem si_seqX (h : Sd Γ e m) : Si Γ tg e (iSX m) := ⟨fun X ok env ds env' hm σ H T hr R q => by
  unfold iSX at hm
  cases q1 : m env with
  | none => rw [q1] at hm; cases hm
  | some r =>
    obtain ⟨o, s1⟩ := r
    rw [q1] at hm
    cases q2 : o.toD with
    | lst l =>
      have e1 : iS m env = some (ds, env') := by
        unfold iS; rw [q1]; simp only [q2, listOfD]; simpa only [q2, seqD] using hm
      exact (si_seq h).run X ok env ds env' e1 σ H T hr R q
    | tup l =>
      have e1 : iS m env = some (ds, env') := by
        unfold iS; rw [q1]; simp only [q2, listOfD]; simpa only [q2, seqD] using hm
      exact (si_seq h).run X ok env ds env' e1 σ H T hr R q
    | str x =>
      simp only [q2, seqD] at hm
      have e1 := Option.some.inj hm
      injection e1 with e1 e2
      subst e1 e2
      refine ⟨_, pi_str (pe_best X e), ?_⟩
      refine h.run X ok env o s1 q1 σ H T hr _ fun v H1 r1 => ?_
      have r1 := r1.freeze
      rw [q2] at r1
      have ev : v = .str x := by
        obtain ⟨L, _, hS⟩ := r1
        exact St.strv hS
      have hz : (sgs x).length = x.cps.size := by unfold sgs; simp
      refine ⟨x, ev, q _ H1 [] ⟨fun i H2 L hi hS => ?_, fun H2 L hS => ?_, fun i H2 L y H' hi hS hy => ?_⟩ r1.drop⟩
      · show i < x.cps.size
        omega
      · show x.cps.size ≤ (sgs x).length
        omega
      · obtain ⟨rfl, c, hc, rfl⟩ := hy
        have e5 : (sgs x)[i]? = some (D.str ⟨#[c]⟩) := by
          unfold sgs
          have e4 : x.cps.toList[i]? = some c := by simpa using hc
          rw [List.getElem?_map, e4]; rfl
        have e3 : (sgs x)[i] = D.str ⟨#[c]⟩ := (List.getElem?_eq_some_iff.mp e5).2
        rw [e3]
        exact hS.flat rfl
    | non => simp only [q2, seqD] at hm; cases hm
    | bl _ => simp only [q2, seqD] at hm; cases hm
    | int _ => simp only [q2, seqD] at hm; cases hm
    | dct _ => simp only [q2, seqD] at hm; cases hm
    | obj _ _ _ => simp only [q2, seqD] at hm; cases hm⟩
end
/-! ### list(text) -/
theorem vals_pt : ∀ {xs : List V} {us : List Value}, xs.length = us.length → (∀ (j : Nat) (x : V) (u : Value), xs[j]? = some x → us[j]? = some u → RelV x u) → Vals xs us
  | [], [], _, _ => .nil
  | x :: xs, u :: us, hl, h => .cons (h 0 x u rfl rfl) (vals_pt (by simpa using hl) fun j y w h1 h2 => h (j + 1) y w h1 h2)
  | [], _ :: _, hl, _ => by cases hl
  | _ :: _, [], hl, _ => by cases hl
theorem St.signs {K : PySem.W.Frag} {H : Hp} {L : List It} (h : St K H L) : ∀ cs : List Nat, St K H (reps (leaf (cs.map fun c => D.str ⟨#[c]⟩)) (cs.map fun c => V.str ⟨#[c]⟩) ++ L)
  | [] => h
  | c :: cs => (St.signs h cs).flat (d := .str ⟨#[c]⟩) (v := .str ⟨#[c]⟩) rfl
section
variable {X : Cx}
def rListStr : List V → Hp → VK → Prop := fun vs H Q => ∃ x : Str, vs = [V.str x] ∧ x.cps.size ≤ sizeLine ∧ ∀ p, H p = none → Q (.ref p) (upd H p (.lst (x.cps.toList.map fun c => V.str ⟨#[c]⟩)))
theorem cr_listStr (hc : X.calm = true) : CallR X (.type "list") rListStr := by
  intro pins s σ H vs us Q I r h
  obtain ⟨x, rfl, hz, q⟩ := h
  obtain ⟨u, rfl, rx⟩ := vals1 r
  obtain ⟨t, rfl⟩ := rx
  refine call_list_str (I.ok.hd hc) x t (hn := hz) fun h' tk acc' c' hk hS' hacc => ?_
  have rv : Vals (x.cps.toList.map fun c => V.str ⟨#[c]⟩) acc'.toList := vals_pt (by simp [hacc.1]) fun j y w h1 h2 => by
    obtain ⟨c, u, hc, rfl⟩ := hacc.2 j w (by simpa using h2)
    rw [List.getElem?_map] at h1
    have e4 : x.cps.toList[j]? = some c := by simpa using hc
    rw [e4] at h1
    have e5 := Option.some.inj h1
    subst e5
    exact ⟨_, rfl⟩
  exact ⟨.ref s.heap.objs.size, _, I.laid (t' := tk) hk (Nat.le_refl _) (show ObjOk X.prog X.w _ h' _ (.lst _) from ⟨by rw [List.length_map, Array.length_toList]; exact hz, acc'.toList, c', rv, by simpa using hS'⟩), rfl, q _ (I.hok.fresh (Nat.le_refl _))⟩
end
def fListX : D → Option O
  | .str x => if x.cps.size ≤ sizeLine then some (.lst (leaf (sgs x))) else none
  | d => fList d
section
variable {Γ : Gm}
theorem ok_listX : OkC Γ (.type "list") (w1 fListX) := okC1 fun X ok H L x d o hS lx hF Q q => by
  unfold fListX at hF
  split at hF
  · rename_i y
    by_cases hz : y.cps.size ≤ sizeLine
    · rw [if_pos hz] at hF
      have e1 := Option.some.inj hF
      subst e1
      refine ⟨_, cr_listStr ok.calm, y, by rw [lx.str hS], hz, fun p hp => q _ _ ?_⟩
      exact St.newLst (ds := sgs y) (by unfold sgs; simp) hp (hS.signs _)
    · rw [if_neg hz] at hF; cases hF
  · exact ok_list X ok H L [x] [d] o hS (.cons lx .nil) hF Q q
end
/-! ### str(list) -/
section
variable {X : Cx}
def rStrD (K : PySem.W.Frag) : List V → Hp → VK → Prop := fun vs H Q => ∃ x p, vs = [x] ∧ Dp K H x p ∧ isDisplay p = true ∧ p.showable = true ∧ p.hasDict = false ∧ p.shown.length ≤ sizeLine ∧ p.depth ≤ 60 ∧ Q (.str p.shown) H
theorem cr_strD (hg : X.A.guards = some []) (hu : X.A.units + 64 < cLine) : CallR X (.type "str") (rStrD X.K) := by
  intro pins s σ H vs us Q I r h
  obtain ⟨x, p, rfl, hp, hdis, hs, hd, hz, hdp, q⟩ := h
  cases r with
  | cons r1 r2 =>
    rename_i u ut
    cases r2
    obtain ⟨as, rd⟩ := Dp.reads I p x u hp r1
    obtain ⟨a, rfl⟩ := isRef_of_reads rd hdis
    exact str_of_reads rd hs (PyData.noDict_hsm hd) hg (by omega) (fun _ _ e => e) (fun h' u tk hk => ⟨.str _, H, I.kept (t' := tk) hk, ⟨u, rfl⟩, q⟩) hz
end
def fStrL (d : D) : Option O := match d.py with
  | some p => if (isDisplay p && p.showable && !p.hasDict && decide (p.depth ≤ 60) && decide (p.shown.length ≤ sizeLine)) = true then some (.d (.str p.shown)) else none
  | none => none
def fStrY : D → Option O
  | .lst l => fStrL (.lst l)
  | .tup l => fStrL (.tup l)
  | d => fStrX d
section
variable {Γ : Gm}
theorem ok_strL {d : D} {o : O} (hF : fStrL d = some o) {X : Cx} (ok : Γ.Ok X) {H : Hp} {L : List It} {x : V} (hS : St Γ.cfg.K H L) (lx : Look L d x) {Q : VK} (q : ∀ v H', St Γ.cfg.K H' (.rep o v :: L) → Q v H') : WC X (.type "str") [x] H Q := by
  unfold fStrL at hF
  cases q1 : d.py with
  | none => rw [q1] at hF; cases hF
  | some p =>
    rw [q1] at hF
    by_cases hz : (isDisplay p && p.showable && !p.hasDict && decide (p.depth ≤ 60) && decide (p.shown.length ≤ sizeLine)) = true
    · simp only [if_pos hz] at hF
      have e1 := Option.some.inj hF
      subst e1
      simp only [Bool.and_eq_true, decide_eq_true_eq, Bool.not_eq_true'] at hz
      obtain ⟨⟨⟨⟨z0, z1⟩, z2⟩, z3⟩, z4⟩ := hz
      exact ⟨_, cr_strD ok.gd ok.room.units, x, p, rfl, by rw [ok.hK]; exact rep_dp (lx.rep hS) q1, z0, z1, z2, z4, z3, q _ H (hS.flat rfl)⟩
    · simp only [if_neg hz] at hF; cases hF
theorem ok_strY : OkC Γ (.type "str") (w1 fStrY) := okC1 fun X ok H L x d o hS lx hF Q q => by
  unfold fStrY at hF
  split at hF
  · exact ok_strL hF ok hS lx q
  · exact ok_strL hF ok hS lx q
  · exact ok_strX X ok H L [x] [d] o hS (.cons lx .nil) hF Q q
end
/-! ### sep.join(xs) -/
def mJoin2 (a b : M O) : M O := fun s => match a s with
  | some (x, s') => match x.toD with
    | .str sep => mJoin sep b s'
    | _ => none
  | none => none
def joinK (b : M O) (x : D) (s : Env) : Option (O × Env) := match x with
  | .str sep => mJoin sep b s
  | _ => none
theorem e_join2 (a b : M O) (s : Env) : mJoin2 a b s = ob (a s) fun x s' => joinK b x.toD s' := by
  unfold mJoin2 ob joinK
  cases a s with
  | none => rfl
  | some p => simp only
theorem joinK_str (b : M O) (x : Str) (s : Env) : joinK b (.str x) s = mJoin x b s := rfl
section
variable {Γ : Gm} {e o : Expr} {apos pos : Pos} {mo m : M O}
theorem sd_join (ho : Sd Γ o mo) (h : Sd Γ e m) (hn : NoStars [e]) (hb : ∀ env : PySem.Env, attributeBase o "join" env (eval o env) = eval o env := by intro _; rfl) (hl : (apos.endLine == pos.line) = true := by rfl) :
    Sd Γ (.Call (.Attribute o "join" apos) [e] [] pos) (mJoin2 mo m) := ⟨fun X ok env ov env' hm' σ H T hr Q q => by
  unfold mJoin2 at hm'
  split at hm'
  · rename_i x s1 h1
    split at hm'
    · rename_i sep h2
      unfold mJoin at hm'
      split at hm'
      · rename_i y s2 h3
        split at hm'
        · rename_i r1 h4
          have e1 := Option.some.inj hm'
          injection e1 with e1 e2
          subst e1 e2
          refine ⟨_, pe_join (pe_best X o) (pe_best X e) (ns_head hn _) (hb X.env) hl, ?_⟩
          refine ho.run X ok env x s1 h1 σ H T hr _ fun v H1 r => ?_
          have r := r.freeze
          rw [h2] at r
          have ev : v = .str sep := by
            obtain ⟨L, _, hS⟩ := r
            exact St.strv hS
          refine ⟨⟨sep, ev⟩, ?_⟩
          refine h.run X ok s1 y s2 h3 σ H1 T r.drop _ fun w H2 r2 => ?_
          have r2 := r2.freeze
          have key : ∀ l : List D, y.toD = .lst l ∨ y.toD = .tup l → (l.all isTxD = true ∧ ((l.map strD).map (·.length)).sum + l.length * sep.length ≤ 16777216) → r1 = .d (.str (Txt.join sep (l.map strD))) →
              ∃ a p, ∃ ys : List Str, v = .str a ∧ [w] = [V.ref p] ∧ (SqL X.K H2 p (ys.map V.str) ∨ SqT X.K H2 p (ys.map V.str)) ∧ (ys.map (·.length)).sum + ys.length * a.length ≤ 16777216 ∧ Q (.str (Txt.join a ys)) H2 := by
            intro l hl hz hr1
            subst hr1
            have hls : listOfD y.toD = some l := by rcases hl with e | e <;> rw [e] <;> rfl
            obtain ⟨L, hE, hS⟩ := id r2
            obtain ⟨k, p, vs, e1, h5, ek, hlen, hS2⟩ := St.read_seq (L := T ++ L) hls hS
            have rs := St.repsH hlen hS2
            have e5 := txs_of hz.1
            rw [e5] at rs
            have e6 : vs = (l.map strD).map V.str := by
              clear hS2 h5 hlen hE hS
              generalize l.map strD = ys at rs
              clear e5
              induction ys generalizing vs with
              | nil => rw [List.map_nil, Reps] at rs; exact rs
              | cons a ys ih =>
                rw [List.map_cons, Reps] at rs
                obtain ⟨v', r', g1, g2, g3⟩ := rs
                rw [Rep] at g2
                rw [g1, g2, ih r' g3]; rfl
            rw [e6] at h5
            refine ⟨sep, p, l.map strD, ev, by rw [e1], ?_, by rw [List.length_map]; exact hz.2, q _ H2 ⟨L, hE, hS.drop.flat rfl⟩⟩
            rw [ok.hK]
            cases k
            · exact .inl h5
            · exact .inr h5
          unfold fJoin at h4
          split at h4
          · rename_i l q5
            split at h4
            · rename_i hz
              exact key l (.inl q5) hz (Option.some.inj h4).symm
            · cases h4
          · rename_i l q5
            split at h4
            · rename_i hz
              exact key l (.inr q5) hz (Option.some.inj h4).symm
            · cases h4
          · cases h4
        · cases hm'
      · cases hm'
    · cases hm'
  · cases hm'⟩
end
end BM

set_option Elab.async false
set_option linter.all false
set_option maxRecDepth 100000
set_option maxHeartbeats 4000000
/-! BM, part 43: x == [], x != [], x == (), x != (), whatever the items are. -/
namespace BM
open PySem PySem.Spec PyProof.Rows L2
section
variable {X : Cx}
def rEqZ (K : PySem.W.Frag) (neg : Bool) : V → V → Hp → VK → Prop := fun x y H Q => ∃ (k : Bool) (a b : Addr) (xs : List V), x = .ref a ∧ y = .ref b ∧ SqB K H k a xs ∧ SqB K H k b [] ∧ Q (.bl (if neg = true then !xs.isEmpty else xs.isEmpty)) H
theorem isEmpty_vals {xs : List V} {its : List Value} (r : Vals xs its) : its.isEmpty = xs.isEmpty := by
  cases r <;> rfl
theorem op_eqZ (hu : X.A.units + 64 < cLine) : OpR X (compareOp .Eq) (rEqZ X.K false) := by
  intro pins s σ H x y v u Q I rx ry h
  obtain ⟨k, a, b, xs, rfl, rfl, h1, h2, q⟩ := h
  cases (show v = Value.ref a from rx)
  cases (show u = Value.ref b from ry)
  obtain ⟨its, rv, t1⟩ := inv_seqB I h1
  obtain ⟨its2, rv2, t2⟩ := inv_seqB I h2
  cases rv2
  have he := isEmpty_vals rv
  cases k with
  | true =>
    have r := SeqAt.RcAt.tuples (A := X.A) (e := fun _ => true) t1 t2 (by omega) fun j j1 j2 => absurd j2 (Nat.not_lt_zero _)
    refine r X.prog X.w X.xe _ ⟨.bl xs.isEmpty, H, I, ?_, q⟩
    show Value.bool _ = Value.bool _
    congr 1
    rw [← he]
    cases its <;> simp
  | false =>
    cases its with
    | nil =>
      have r := SeqAt.RcAt.lists (A := X.A) (e := fun _ => true) t1 t2 rfl (by omega) fun j j1 j2 => absurd j2 (Nat.not_lt_zero _)
      refine r X.prog X.w X.xe _ ⟨.bl xs.isEmpty, H, I, ?_, q⟩
      show Value.bool _ = Value.bool _
      rw [← he]; rfl
    | cons z zs =>
      have r := SeqAt.RcAt.lists_lengths (A := X.A) t1 t2 (by simp) (by omega)
      refine r X.prog X.w X.xe _ ⟨.bl xs.isEmpty, H, I, ?_, q⟩
      show Value.bool _ = Value.bool _
      rw [← he]; rfl
theorem op_neZ (hu : X.A.units + 64 < cLine) : OpR X (compareOp .NotEq) (rEqZ X.K true) := by
  intro pins s σ H x y v u Q I rx ry h
  obtain ⟨k, a, b, xs, rfl, rfl, h1, h2, q⟩ := h
  cases (show v = Value.ref a from rx)
  cases (show u = Value.ref b from ry)
  obtain ⟨its, rv, t1⟩ := inv_seqB I h1
  obtain ⟨its2, rv2, t2⟩ := inv_seqB I h2
  cases rv2
  have he := isEmpty_vals rv
  cases k with
  | true =>
    have r := SeqAt.RcNeAt.tuples (A := X.A) (e := fun _ => true) t1 t2 (by omega) fun j j1 j2 => absurd j2 (Nat.not_lt_zero _)
    refine r X.prog X.w X.xe _ ⟨.bl (!xs.isEmpty), H, I, ?_, q⟩
    show Value.bool _ = Value.bool _
    congr 1
    rw [← he]
    cases its <;> simp
  | false =>
    cases its with
    | nil =>
      have r := SeqAt.RcNeAt.lists (A := X.A) (e := fun _ => true) t1 t2 rfl (by omega) fun j j1 j2 => absurd j2 (Nat.not_lt_zero _)
      refine r X.prog X.w X.xe _ ⟨.bl (!xs.isEmpty), H, I, ?_, q⟩
      show Value.bool _ = Value.bool _
      rw [← he]; rfl
    | cons z zs =>
      have r := SeqAt.RcNeAt.lists_lengths (A := X.A) t1 t2 (by simp) (by omega)
      refine r X.prog X.w X.xe _ ⟨.bl (!xs.isEmpty), H, I, ?_, q⟩
      show Value.bool _ = Value.bool _
      rw [← he]; rfl
end
def fEqZ : D → D → Option Bool
  | .tup a, .tup [] => some a.isEmpty
  | .lst a, .lst [] => some a.isEmpty
  | a, b => fEq a b
def fEqZ0 : D → D → Option Bool
  | .tup a, .tup [] => some a.isEmpty
  | .lst a, .lst [] => some a.isEmpty
  | _, _ => none
def fNeZ0 : D → D → Option Bool
  | .tup a, .tup [] => some (!a.isEmpty)
  | .lst a, .lst [] => some (!a.isEmpty)
  | _, _ => none
def fNeZ : D → D → Option Bool
  | .tup a, .tup [] => some (!a.isEmpty)
  | .lst a, .lst [] => some (!a.isEmpty)
  | a, b => fNe a b
section
variable {Γ : Gm}
theorem e_fEqZT (a : List D) : fEqZ (.tup a) (.tup []) = some a.isEmpty := rfl
theorem e_fEqZL (a : List D) : fEqZ (.lst a) (.lst []) = some a.isEmpty := rfl
theorem e_fNeZT (a : List D) : fNeZ (.tup a) (.tup []) = some (!a.isEmpty) := rfl
theorem e_fNeZL (a : List D) : fNeZ (.lst a) (.lst []) = some (!a.isEmpty) := rfl
theorem look_seqB {K : PySem.W.Frag} {H : Hp} {L : List It} {l : List D} {x : V} {d : D} (hd : listOfD d = some l) (hS : St K H L) (lx : Look L d x) : ∃ a vs, x = .ref a ∧ SqB K H (isTup d) a vs ∧ vs.isEmpty = l.isEmpty := by
  have em : ∀ vs : List V, l.length = vs.length → vs.isEmpty = l.isEmpty := fun vs h => by
    cases l <;> cases vs <;> first | rfl | simp at h
  cases d with
  | lst l' =>
    cases hd
    obtain ⟨a, vs, e1, h1, l1, _⟩ := Look.lst hS lx
    exact ⟨a, vs, e1, h1, em vs l1⟩
  | tup l' =>
    cases hd
    obtain ⟨a, vs, e1, h1, l1, _⟩ := Look.tup hS lx
    exact ⟨a, vs, e1, h1, em vs l1⟩
  | _ => cases hd
theorem nil_of_empty {vs : List V} (h : vs.isEmpty = ([] : List D).isEmpty) : vs = [] := by
  cases vs with
  | nil => rfl
  | cons => cases h
theorem ok_eqZ0 : OkB Γ (compareOp .Eq) (bO (w2b fEqZ0)) := okb_of fun X ok H L x y d e k hS lx ly hF Q q => by
  unfold fEqZ0 at hF
  split at hF
  · obtain ⟨a, vs, e1, h1, m1⟩ := look_seqB (K := Γ.cfg.K) rfl hS lx
    obtain ⟨b, ws, e2, h2, m2⟩ := look_seqB (K := Γ.cfg.K) rfl hS ly
    subst e1 e2
    have ew := nil_of_empty m2
    subst ew
    have ek := Option.some.inj hF
    subst ek
    exact ⟨_, op_eqZ ok.room.units, true, a, b, vs, rfl, rfl, by rw [ok.hK]; exact h1, by rw [ok.hK]; exact h2, by rw [if_neg (by decide), m1]; exact q⟩
  · obtain ⟨a, vs, e1, h1, m1⟩ := look_seqB (K := Γ.cfg.K) rfl hS lx
    obtain ⟨b, ws, e2, h2, m2⟩ := look_seqB (K := Γ.cfg.K) rfl hS ly
    subst e1 e2
    have ew := nil_of_empty m2
    subst ew
    have ek := Option.some.inj hF
    subst ek
    exact ⟨_, op_eqZ ok.room.units, false, a, b, vs, rfl, rfl, by rw [ok.hK]; exact h1, by rw [ok.hK]; exact h2, by rw [if_neg (by decide), m1]; exact q⟩
  · cases hF
theorem ok_neZ0 : OkB Γ (compareOp .NotEq) (bO (w2b fNeZ0)) := okb_of fun X ok H L x y d e k hS lx ly hF Q q => by
  unfold fNeZ0 at hF
  split at hF
  · obtain ⟨a, vs, e1, h1, m1⟩ := look_seqB (K := Γ.cfg.K) rfl hS lx
    obtain ⟨b, ws, e2, h2, m2⟩ := look_seqB (K := Γ.cfg.K) rfl hS ly
    subst e1 e2
    have ew := nil_of_empty m2
    subst ew
    have ek := Option.some.inj hF
    subst ek
    exact ⟨_, op_neZ ok.room.units, true, a, b, vs, rfl, rfl, by rw [ok.hK]; exact h1, by rw [ok.hK]; exact h2, by rw [if_pos rfl, m1]; exact q⟩
  · obtain ⟨a, vs, e1, h1, m1⟩ := look_seqB (K := Γ.cfg.K) rfl hS lx
    obtain ⟨b, ws, e2, h2, m2⟩ := look_seqB (K := Γ.cfg.K) rfl hS ly
    subst e1 e2
    have ew := nil_of_empty m2
    subst ew
    have ek := Option.some.inj hF
    subst ek
    exact ⟨_, op_neZ ok.room.units, false, a, b, vs, rfl, rfl, by rw [ok.hK]; exact h1, by rw [ok.hK]; exact h2, by rw [if_pos rfl, m1]; exact q⟩
  · cases hF
theorem fEqZ_or {d e : D} {k : Bool} (h : fEqZ d e = some k) : fEqZ0 d e = some k ∨ fEq d e = some k := by
  unfold fEqZ at h
  split at h
  · exact .inl h
  · exact .inl h
  · exact .inr h
theorem fNeZ_or {d e : D} {k : Bool} (h : fNeZ d e = some k) : fNeZ0 d e = some k ∨ fNe d e = some k := by
  unfold fNeZ at h
  split at h
  · exact .inl h
  · exact .inl h
  · exact .inr h
theorem bO2_some {F : D → D → Option Bool} {d e : D} {o : O} (h : bO (w2b F) [d, e] = some o) : ∃ k, F d e = some k ∧ o = .d (.bl k) := by
  have h : (match F d e with | some b => some (O.d (.bl b)) | none => none) = some o := h
  cases q : F d e with
  | none => rw [q] at h; cases h
  | some k => rw [q] at h; exact ⟨k, rfl, (Option.some.inj h).symm⟩
theorem bO2_of {F : D → D → Option Bool} {d e : D} {k : Bool} (h : F d e = some k) : bO (w2b F) [d, e] = some (.d (.bl k)) := by
  show (match F d e with | some b => some (O.d (.bl b)) | none => none) = _
  rw [h]
theorem ok_eqZ : OkB Γ (compareOp .Eq) (bO (w2b fEqZ)) := fun X ok H L x y d e o hS lx ly hF Q q => by
  obtain ⟨k, h1, rfl⟩ := bO2_some hF
  rcases fEqZ_or h1 with h | h
  · exact ok_eqZ0 X ok H L x y d e _ hS lx ly (bO2_of h) Q q
  · exact ok_eq X ok H L x y d e _ hS lx ly (bO2_of h) Q q
theorem ok_neZ : OkB Γ (compareOp .NotEq) (bO (w2b fNeZ)) := fun X ok H L x y d e o hS lx ly hF Q q => by
  obtain ⟨k, h1, rfl⟩ := bO2_some hF
  rcases fNeZ_or h1 with h | h
  · exact ok_neZ0 X ok H L x y d e _ hS lx ly (bO2_of h) Q q
  · exact ok_ne X ok H L x y d e _ hS lx ly (bO2_of h) Q q
end
end BM

set_option Elab.async false
set_option linter.all false
set_option maxRecDepth 100000
set_option maxHeartbeats 4000000
/-! BM, part 44: small facts that the laws share. -/
namespace BM
open PySem PySem.Spec PyProof.Rows L2
theorem okDs_map {α : Type} {f : α → D} : ∀ {l : List α}, (∀ x ∈ l, okD (f x) = true) → okDs (l.map f) = true
  | [], _ => by simp [okDs]
  | x :: r, h => by rw [List.map_cons, okDs, h x List.mem_cons_self, okDs_map fun y hy => h y (List.mem_cons_of_mem _ hy)]; rfl
theorem dpDs_map {α : Type} {f : α → D} {B : Nat} : ∀ {l : List α}, (∀ x ∈ l, dpD (f x) ≤ B) → dpDs (l.map f) ≤ B
  | [], _ => by simp [dpDs]
  | x :: r, h => by
    have h1 := h x List.mem_cons_self
    have h2 := dpDs_map fun y hy => h y (List.mem_cons_of_mem _ hy)
    rw [List.map_cons, dpDs]; omega
theorem wtDs_map {α : Type} {f : α → D} {B : Nat} : ∀ {l : List α}, (∀ x ∈ l, wtD (f x) ≤ B) → wtDs (l.map f) ≤ l.length * (B + 2)
  | [], _ => by simp [wtDs]
  | x :: r, h => by
    have h1 := h x List.mem_cons_self
    have h2 := wtDs_map fun y hy => h y (List.mem_cons_of_mem _ hy)
    rw [List.map_cons, wtDs, List.length_cons, Nat.succ_mul]; omega
theorem fEq_nil {l : List D} (h : okDs l = true) (hd : dpDs l ≤ 59) : fEq (.lst l) (.lst []) = some l.isEmpty := by
  rw [fEq_ok (by rw [okD]; exact h) (by simp [okD, okDs]) (by rw [dpD]; omega) (by simp [dpD, dpDs])]
  cases l with
  | nil => rfl
  | cons x r => rfl
theorem okD_int {i : Int} (h : i.natAbs < 2 ^ 64) : okD (.int i) = true := by
  rw [okD, decide_eq_true_iff]
  by_cases h0 : i.natAbs = 0
  · rw [h0]; decide
  · have := (Nat.log2_lt h0 (k := 64)).mpr h
    omega
end BM
namespace BM
open PySem PySem.Spec PyProof.Rows L2
theorem parts_of {α : Type} {emb : α → D} {Q : α → Prop} : ∀ (ds : List D) (os : List O), os.length = ds.length → (∀ p ∈ ds.zip os, ∃ a, Q a ∧ p.2 = .d (emb a)) → ∃ l : List α, os = leaf (l.map emb) ∧ (∀ a ∈ l, Q a) ∧ l.length = ds.length
  | [], [], _, _ => ⟨[], rfl, fun a h => (nomatch h), rfl⟩
  | d :: ds, o :: os, hl, h => by
    obtain ⟨a, h1, h2⟩ := h (d, o) List.mem_cons_self
    obtain ⟨l, g1, g2, g3⟩ := parts_of ds os (by simpa using hl) fun p hp => h p (List.mem_cons_of_mem _ hp)
    have h2 : o = .d (emb a) := h2
    exact ⟨a :: l, by rw [h2, g1]; rfl, fun b hb => by
      rcases List.mem_cons.mp hb with rfl | hb
      · exact h1
      · exact g2 b hb, by rw [List.length_cons, List.length_cons, g3]⟩
  | [], _ :: _, hl, _ => by cases hl
  | _ :: _, [], hl, _ => by cases hl
theorem fIn_lst {a : D} {l : List D} (ha : okD a = true) (h1 : dpD a ≤ 60) (hl : okDs l = true) (h2 : dpDs l ≤ 59) : ∃ b, fIn a (.lst l) = some b := by
  obtain ⟨g1, g2, g3, g4, g5, g6⟩ := okDs_py hl
  have s1 := shaped_ok ha h1
  have s2 : SeqAt.shaped (.list (pyTs l)) = true := by
    have := shaped_ok (d := .lst l) (by rw [okD]; exact hl) (by rw [dpD]; omega)
    rwa [pyT] at this
  have hp := (okD_py ha).1
  refine ⟨(pyTs l).any fun z => PyData.eqv z (pyT a), ?_⟩
  cases a with
  | dct _ => simp [okD] at ha
  | obj _ _ _ => simp [okD] at ha
  | _ =>
    unfold fIn
    simp only [hp, g1, s1, s2, Bool.and_self, if_true]
theorem cut63 {l : List D} (h : l.length ≤ 63) : BM.cutD l none (some 63) = l := by
  unfold BM.cutD
  rw [show HT.sIx l.length 0 none = 0 from rfl, show HT.sIx l.length l.length (some 63) = min 63 l.length from HT.sIx_nat l.length l.length 63, List.drop_zero]
  rw [show min 63 l.length - 0 = l.length by omega]; exact List.take_length
theorem cutN {l : List D} (k : Nat) : BM.cutD l none (some (k : Nat)) = l.take k := by
  unfold BM.cutD
  rw [show HT.sIx l.length 0 none = 0 from rfl, show HT.sIx l.length l.length (some ((k : Nat) : Int)) = min k l.length from HT.sIx_nat l.length l.length k, List.drop_zero, Nat.sub_zero]
  rcases Nat.le_total k l.length with h | h
  · rw [Nat.min_eq_left h]
  · rw [Nat.min_eq_right h, List.take_length, List.take_of_length_le h]
end BM
namespace BM
open PySem PySem.Spec PyProof.Rows L2
theorem e_seqL (l : List D) : seqD (.lst l) = some l := rfl
theorem e_seqT (l : List D) : seqD (.tup l) = some l := rfl
theorem e_seqS (x : Str) : seqD (.str x) = some (sgs x) := rfl
theorem e_fListXL (l : List D) : fListX (.lst l) = some (.lst (leaf l)) := rfl
theorem e_fListXT (l : List D) : fListX (.tup l) = some (.lst (leaf l)) := rfl
/-- any value of plain signs, with a bound of its repr's weight and depth -/
def Vl (g w n : Nat) (d : D) : Prop := okA g d = true ∧ wtX d ≤ w ∧ dpX d ≤ n
theorem Vl.mono {g w n g' w' n' : Nat} {d : D} (h : Vl g w n d) (h1 : g ≤ g') (h2 : w ≤ w') (h3 : n ≤ n') : Vl g' w' n' d := ⟨okA_mono h1 h.1, Nat.le_trans h.2.1 h2, Nat.le_trans h.2.2 h3⟩
theorem Vl.repr {g w n : Nat} {d : D} (h : Vl g w n d) (hg : g ≤ 1000) (hw : w ≤ 16000000) (hn : n ≤ 60) : fReprX d = some (.d (.str (rpX d))) :=
  fReprX_ok (okA_X hg h.1) (by rw [sizeLine_eq]; have := h.2.1; omega) (Nat.le_trans h.2.2 hn)
end BM

set_option Elab.async false
set_option linter.all false
set_option maxRecDepth 100000
set_option maxHeartbeats 4000000
/-! BM, part 45: shared runs: chains, slices, zips, comprehensions. -/
namespace BM
open PySem PySem.Spec PyProof.Rows L2
/-- a natural number -/
abbrev dn (n : Nat) : D := .int (n : Nat)
theorem upto_nat (w : Nat) : upto 0 w = (List.range w).map dn := by
  unfold upto
  refine List.map_congr_left fun i _ => ?_
  rw [Int.zero_add]
section
variable {s : Env}
def chK (F F' : D → D → Option Bool) (mc : M O) (oa ob' : O) (s : Env) (_ : Tg mc := ⟨⟩) : Option (Bool × Env) := oo (F oa.toD ob'.toD) fun k => ifk (fun s => ob (mc s) fun oc s3 => oo (F' ob'.toD oc.toD) fun k => some (k, s3)) (fun s => some (false, s)) k s
theorem chK_eq (F F' : D → D → Option Bool) (mc : M O) (oa ob' : O) (t : Tg mc) : chK F F' mc oa ob' s t = oo (F oa.toD ob'.toD) fun k => ifk (fun s => ob (mc s) fun oc s3 => oo (F' ob'.toD oc.toD) fun k => some (k, s3)) (fun s => some (false, s)) k s := rfl
theorem e_chn (F F' : D → D → Option Bool) (ma mb mc : M O) : tChn F F' ma mb mc s = ob (ma s) fun oa s1 => ob (mb s1) fun ob' s2 => chK F F' mc oa ob' s2 := by
  unfold tChn chK ob oo
  cases ma s with
  | none => rfl
  | some p =>
    simp only
    cases mb p.2 with
    | none => rfl
    | some q =>
      simp only
      cases F p.1.toD q.1.toD with
      | none => rfl
      | some k =>
        cases k with
        | false => rfl
        | true =>
          simp only [ifk]
          cases mc q.2 with
          | none => rfl
          | some r =>
            simp only
            cases F' q.1.toD r.1.toD <;> rfl
/-! ### comprehensions -/
theorem x_lcF {δ : Type} {emb : δ → D} {own : List Nat} {src : M (List D)} {g : D → M Unit} {t : M Bool} {elt : M O} {s0 s1 : Env} {f : δ → Bool} {h : δ → D} (xs : List δ) (hs : src s0 = some (xs.map emb, s1)) (h0 : wipeE s1 own = s1) (hz : xs.length ≤ sizeLine)
    (k : ∀ x ∈ xs, ∃ s2, g (emb x) s1 = some ((), s2) ∧ t s2 = some (f x, s2) ∧ (f x = true → elt s2 = some (.d (h x), s2)) ∧ wipeE s2 own = s1) : mLc own src g t elt s0 = some (.lst (leaf ((xs.filter f).map h)), s1) := by
  rw [e_lc, hs, ob_some, h0, x_lcT (emb := emb) (f := f) (h := fun x => O.d (h x)) xs k, ob_some]
  have hl : ((xs.filter f).map fun x => O.d (h x)).length ≤ sizeLine := by
    rw [List.length_map]; exact Nat.le_trans (List.length_filter_le _ _) hz
  rw [if_pos hl, leaf, List.map_map]; rfl
theorem x_lcM {δ : Type} {emb : δ → D} {own : List Nat} {src : M (List D)} {g : D → M Unit} {elt : M O} {s0 s1 : Env} {h : δ → D} (xs : List δ) (hs : src s0 = some (xs.map emb, s1)) (h0 : wipeE s1 own = s1) (hz : xs.length ≤ sizeLine)
    (k : ∀ x ∈ xs, ∃ s2, g (emb x) s1 = some ((), s2) ∧ elt s2 = some (.d (h x), s2) ∧ wipeE s2 own = s1) : mLc own src g tYes elt s0 = some (.lst (leaf (xs.map h)), s1) := by
  have e := x_lcF (emb := emb) (own := own) (src := src) (g := g) (t := tYes) (elt := elt) (f := fun _ => true) (h := h) xs hs h0 hz fun x hx => by
    obtain ⟨s2, h1, h2, h3⟩ := k x hx
    exact ⟨s2, h1, rfl, fun _ => h2, h3⟩
  rw [e, List.filter_eq_self.mpr fun _ _ => rfl]
/-! ### zips -/
def zipK (a b : O) (s : Env) : Option (List D × Env) := match listOfD a.toD, listOfD b.toD with
  | some l1, some l2 => if l1.length = l2.length then some (zipD l1 l2, s) else none
  | _, _ => none
theorem e_zipS (a b : M O) : iZipS a b s = ob (a s) fun o1 s1 => ob (b s1) fun o2 s2 => zipK o1 o2 s2 := by
  unfold iZipS
  rw [e_args]
  unfold ob zipK
  cases a s with
  | none => rfl
  | some p =>
    simp only
    rw [e_args]
    unfold ob
    cases b p.2 with
    | none => rfl
    | some q =>
      simp only [e_args0] <;> (cases listOfD p.1.toD <;> cases listOfD q.1.toD <;> rfl)
theorem zipK_ok {a b : O} {l1 l2 : List D} (h1 : listOfD a.toD = some l1) (h2 : listOfD b.toD = some l2) (hl : l1.length = l2.length) : zipK a b s = some (zipD l1 l2, s) := by
  unfold zipK
  rw [h1, h2]
  simp only [if_pos hl]
end
theorem zipD_map {α β : Type} (f : α → D) (g : β → D) : ∀ (l1 : List α) (l2 : List β), zipD (l1.map f) (l2.map g) = (l1.zip l2).map fun p => .tup [f p.1, g p.2]
  | [], _ => by simp [zipD]
  | _ :: _, [] => by simp [zipD]
  | a :: l1, b :: l2 => by
    have ih := zipD_map f g l1 l2
    unfold zipD at *
    simp only [List.map_cons, List.zipWith_cons_cons, List.zip_cons_cons, ih]
/-! ### all, any -/
theorem fAll_map {α : Type} (p : α → Bool) (xs : List α) : fAll (.lst (xs.map fun x => D.bl (p x))) = some (.d (.bl (xs.all p))) := by
  have h : (xs.map fun x => D.bl (p x)).all isBl = true := by rw [List.all_map, List.all_eq_true]; intro _ _; rfl
  show (if (xs.map fun x => D.bl (p x)).all isBl = true then some (O.d (.bl ((xs.map fun x => D.bl (p x)).all blD))) else none) = _
  rw [if_pos h, List.all_map]; rfl
theorem fAny_map {α : Type} (p : α → Bool) (xs : List α) : fAny (.lst (xs.map fun x => D.bl (p x))) = some (.d (.bl (xs.any p))) := by
  have h : (xs.map fun x => D.bl (p x)).all isBl = true := by rw [List.all_map, List.all_eq_true]; intro _ _; rfl
  show (if (xs.map fun x => D.bl (p x)).all isBl = true then some (O.d (.bl ((xs.map fun x => D.bl (p x)).any blD))) else none) = _
  rw [if_pos h, List.any_map]; rfl
/-! ### slices -/
theorem cut_to (l : List D) (k : Nat) : cutD l none (some (k : Nat)) = l.take k := cutN k
theorem cut_from (l : List D) (k : Nat) : cutD l (some (k : Nat)) none = l.drop k := by
  unfold cutD
  rw [show HT.sIx l.length 0 (some ((k : Nat) : Int)) = min k l.length from HT.sIx_nat l.length 0 k, show HT.sIx l.length l.length none = l.length from rfl]
  rcases Nat.le_total k l.length with h | h
  · rw [Nat.min_eq_left h, List.take_of_length_le (by rw [List.length_drop]; omega)]
  · rw [Nat.min_eq_right h, List.drop_of_length_le h, Nat.sub_self, List.take_zero]
theorem cut_mid (l : List D) (i j : Nat) : cutD l (some (i : Nat)) (some (j : Nat)) = (l.drop i).take (j - i) := by
  unfold cutD
  rw [show HT.sIx l.length 0 (some ((i : Nat) : Int)) = min i l.length from HT.sIx_nat l.length 0 i, show HT.sIx l.length l.length (some ((j : Nat) : Int)) = min j l.length from HT.sIx_nat l.length l.length j]
  rcases Nat.le_total i l.length with h | h
  · rw [Nat.min_eq_left h]
    rcases Nat.le_total j l.length with h2 | h2
    · rw [Nat.min_eq_left h2]
    · rw [Nat.min_eq_right h2, List.take_of_length_le (by rw [List.length_drop]; omega), List.take_of_length_le (by rw [List.length_drop]; omega)]
  · rw [Nat.min_eq_right h, List.drop_of_length_le (Nat.le_refl _), List.drop_of_length_le h, List.take_nil, List.take_nil]
theorem cut_last (l : List D) : cutD l none (some (-1)) = l.dropLast := by
  unfold cutD
  rw [show HT.sIx l.length 0 none = 0 from rfl, List.drop_zero, Nat.sub_zero, List.dropLast_eq_take]
  congr 1
  unfold HT.sIx
  simp only
  try unfold HT.clip
  try split <;> omega
end BM

set_option Elab.async false
set_option linter.all false
set_option maxRecDepth 100000
set_option maxHeartbeats 4000000
/-! BM, part 46: comprehensions that change the environment; joins, slices, sums of texts. -/
namespace BM
open PySem PySem.Spec PyProof.Rows L2
theorem lcS_core {δ α : Type} {emb : δ → D} {out : α → D} {own : List Nat} {g : D → M Unit} {t : M Bool} {elt : M O} {P : Nat → Env → Prop} {Q : α → Prop} : ∀ (xs : List δ) (n : Nat) (s : Env), P n s →
    (∀ (i : Nat) (x : δ) (s : Env), xs[i]? = some x → P (n + i) s → ∃ s1 s2 b, g (emb x) s = some ((), s1) ∧ t s1 = some (b, s2) ∧ (b = true → ∃ s3 a, elt s2 = some (.d (out a), s3) ∧ Q a ∧ P (n + i + 1) (wipeE s3 own)) ∧ (b = false → P (n + i + 1) (wipeE s2 own))) →
    ∃ (l : List α) (s' : Env), lcL own g t elt (xs.map emb) s = some (leaf (l.map out), s') ∧ l.length ≤ xs.length ∧ (∀ a ∈ l, Q a) ∧ P (n + xs.length) s'
  | [], n, s, p, _ => ⟨[], s, rfl, Nat.le_refl _, fun a h => (nomatch h), p⟩
  | x :: xs, n, s, p, k => by
    obtain ⟨s1, s2, b, h1, h2, h3, h4⟩ := k 0 x s rfl p
    have step : ∀ s3, P (n + 1) s3 → ∃ (l : List α) (s' : Env), lcL own g t elt (xs.map emb) s3 = some (leaf (l.map out), s') ∧ l.length ≤ xs.length ∧ (∀ a ∈ l, Q a) ∧ P (n + (xs.length + 1)) s' := fun s3 p3 => by
      obtain ⟨l, s', g1, g2, g3, g4⟩ := lcS_core (out := out) (own := own) (g := g) (t := t) (elt := elt) (P := P) (Q := Q) xs (n + 1) s3 p3 fun i y s e hp => by
        have z := k (i + 1) y s e (by rw [show n + (i + 1) = n + 1 + i by omega]; exact hp)
        rw [show n + (i + 1) + 1 = n + 1 + i + 1 by omega] at z
        exact z
      exact ⟨l, s', g1, g2, g3, by rw [show n + (xs.length + 1) = n + 1 + xs.length by omega]; exact g4⟩
    rw [List.map_cons, List.length_cons]
    cases b with
    | true =>
      obtain ⟨s3, a, e1, e2, e3⟩ := h3 rfl
      obtain ⟨l, s', g1, g2, g3, g4⟩ := step _ e3
      refine ⟨a :: l, s', ?_, by simp; omega, fun y hy => ?_, g4⟩
      · rw [e_lcL, h1, ob_some, h2, ob_some, ifk_t, e1, ob_some, g1, ob_some]; rfl
      · rcases List.mem_cons.mp hy with rfl | hy
        · exact e2
        · exact g3 y hy
    | false =>
      obtain ⟨l, s', g1, g2, g3, g4⟩ := step _ (h4 rfl)
      refine ⟨l, s', ?_, by omega, g3, g4⟩
      rw [e_lcL, h1, ob_some, h2, ob_some, ifk_f, g1]
/-- a comprehension that changes the environment, with a test -/
theorem x_lcSF {δ α : Type} {emb : δ → D} {out : α → D} {own : List Nat} {src : M (List D)} {g : D → M Unit} {t : M Bool} {elt : M O} {P : Nat → Env → Prop} {Q : α → Prop} {s0 s1 : Env} (xs : List δ) (hs : src s0 = some (xs.map emb, s1)) (h0 : P 0 (wipeE s1 own)) (hz : xs.length ≤ sizeLine)
    (k : ∀ (i : Nat) (x : δ) (s : Env), xs[i]? = some x → P i s → ∃ s1 s2 b, g (emb x) s = some ((), s1) ∧ t s1 = some (b, s2) ∧ (b = true → ∃ s3 a, elt s2 = some (.d (out a), s3) ∧ Q a ∧ P (i + 1) (wipeE s3 own)) ∧ (b = false → P (i + 1) (wipeE s2 own))) :
    ∃ (l : List α) (s' : Env), mLc own src g t elt s0 = some (.lst (leaf (l.map out)), s') ∧ l.length ≤ xs.length ∧ (∀ a ∈ l, Q a) ∧ P xs.length s' := by
  obtain ⟨l, s', h1, h2, h3, h4⟩ := lcS_core (out := out) (own := own) (g := g) (t := t) (elt := elt) (P := P) (Q := Q) xs 0 _ h0 fun i x s e p => by
    have z := k i x s e (by rw [Nat.zero_add] at p; exact p)
    rw [Nat.zero_add]
    exact z
  rw [Nat.zero_add] at h4
  refine ⟨l, s', ?_, h2, h3, h4⟩
  rw [e_lc, hs, ob_some, h1, ob_some, if_pos (by simp only [leaf, List.length_map]; omega)]
theorem lcY_core {δ α : Type} {emb : δ → D} {out : α → D} {own : List Nat} {g : D → M Unit} {elt : M O} {P : Nat → Env → Prop} {Q : Nat → α → Prop} : ∀ (xs : List δ) (n : Nat) (s : Env), P n s →
    (∀ (i : Nat) (x : δ) (s : Env), xs[i]? = some x → P (n + i) s → ∃ s1 s3 a, g (emb x) s = some ((), s1) ∧ elt s1 = some (.d (out a), s3) ∧ Q (n + i) a ∧ P (n + i + 1) (wipeE s3 own)) →
    ∃ (l : List α) (s' : Env), lcL own g tYes elt (xs.map emb) s = some (leaf (l.map out), s') ∧ l.length = xs.length ∧ (∀ i a, l[i]? = some a → Q (n + i) a) ∧ P (n + xs.length) s'
  | [], n, s, p, _ => ⟨[], s, rfl, rfl, fun i a h => by simp at h, p⟩
  | x :: xs, n, s, p, k => by
    obtain ⟨s1, s3, a, h1, e1, e2, e3⟩ := k 0 x s rfl p
    obtain ⟨l, s', g1, g2, g3, g4⟩ := lcY_core (out := out) (own := own) (g := g) (elt := elt) (P := P) (Q := Q) xs (n + 1) _ e3 fun i y s e hp => by
        have z := k (i + 1) y s e (by rw [show n + (i + 1) = n + 1 + i by omega]; exact hp)
        rw [show n + (i + 1) + 1 = n + 1 + i + 1 by omega, show n + (i + 1) = n + 1 + i by omega] at z
        exact z
    rw [List.map_cons, List.length_cons]
    refine ⟨a :: l, s', ?_, by simp; omega, fun i y hy => ?_, by rw [show n + (xs.length + 1) = n + 1 + xs.length by omega]; exact g4⟩
    · rw [e_lcL, h1, ob_some, show tYes s1 = some (true, s1) from rfl, ob_some, ifk_t, e1, ob_some, g1, ob_some]; rfl
    · cases i with
      | zero => cases (Option.some.inj hy); exact e2
      | succ i =>
        have := g3 i y hy
        rw [show n + 1 + i = n + (i + 1) by omega] at this
        exact this
/-- a comprehension that changes the environment -/
theorem x_lcS {δ α : Type} {emb : δ → D} {out : α → D} {own : List Nat} {src : M (List D)} {g : D → M Unit} {elt : M O} {P : Nat → Env → Prop} {Q : Nat → α → Prop} {s0 s1 : Env} (xs : List δ) (hs : src s0 = some (xs.map emb, s1)) (h0 : P 0 (wipeE s1 own)) (hz : xs.length ≤ sizeLine)
    (k : ∀ (i : Nat) (x : δ) (s : Env), xs[i]? = some x → P i s → ∃ s1 s3 a, g (emb x) s = some ((), s1) ∧ elt s1 = some (.d (out a), s3) ∧ Q i a ∧ P (i + 1) (wipeE s3 own)) :
    ∃ (l : List α) (s' : Env), mLc own src g tYes elt s0 = some (.lst (leaf (l.map out)), s') ∧ l.length = xs.length ∧ (∀ i a, l[i]? = some a → Q i a) ∧ P xs.length s' := by
  obtain ⟨l, s', h1, h2, h3, h4⟩ := lcY_core (out := out) (own := own) (g := g) (elt := elt) (P := P) (Q := Q) xs 0 _ h0 fun i x s e p => by
    have z := k i x s e (by rw [Nat.zero_add] at p; exact p)
    rw [Nat.zero_add]
    exact z
  rw [Nat.zero_add] at h4
  refine ⟨l, s', ?_, h2, fun i a h => by have := h3 i a h; rw [Nat.zero_add] at this; exact this, h4⟩
  rw [e_lc, hs, ob_some, h1, ob_some, if_pos (by simp only [leaf, List.length_map]; omega)]
/-- what holds of the items by place holds of the items -/
theorem by_place {α : Type} {l : List α} {Q : α → Prop} (h : ∀ (i : Nat) (a : α), l[i]? = some a → Q a) : ∀ a ∈ l, Q a := fun a ha => by
  obtain ⟨i, hi, e⟩ := List.getElem_of_mem ha
  exact h i a (by rw [List.getElem?_eq_getElem hi, e])
/-! ### texts -/
theorem fLen_s {x : Str} (h : x.length ≤ 1000000) : fLen (.str x) = some (.d (.int x.length)) := by
  show (if x.length ≤ sizeLine then some (O.d (.int x.length)) else none) = _
  rw [if_pos (by rw [sizeLine_eq]; omega)]
theorem len_cps (x : Str) : x.cps.toList.length = x.length := by show _ = x.cps.size; simp
theorem fAdd_s {a b : Str} (h : a.length + b.length ≤ 1000000) : fAdd (.str a) (.str b) = some (.d (.str (a ++ b))) := by
  show (if a.length + b.length ≤ sizeLine then some (O.d (.str (a ++ b))) else none) = _
  rw [if_pos (by rw [sizeLine_eq]; omega)]
theorem fSlH_s {x : Str} {i : Int} (h : x.length ≤ 1000000) : fSlH [.str x, .int i] = some (.d (.str (cutS x none (some i)))) := by
  show (if x.length ≤ sizeLine then some (O.d (.str (cutS x none (some i)))) else none) = _
  rw [if_pos (by rw [sizeLine_eq]; omega)]
theorem fSlL_s {x : Str} {i : Int} (h : x.length ≤ 1000000) : fSlL [.str x, .int i] = some (.d (.str (cutS x (some i) none))) := by
  show (if x.length ≤ sizeLine then some (O.d (.str (cutS x (some i) none))) else none) = _
  rw [if_pos (by rw [sizeLine_eq]; omega)]
theorem all_tx (xs : List Str) : (xs.map D.str).all isTxD = true := by
  rw [List.all_map, List.all_eq_true]; intro _ _; rfl
theorem strD_map (xs : List Str) : (xs.map D.str).map strD = xs := by
  rw [List.map_map]
  exact List.map_id'' (fun _ => rfl) xs
theorem fJoin_ok {sep : Str} {xs : List Str} (h : (xs.map (·.length)).sum + xs.length * sep.length ≤ 16777216) : fJoin sep (.lst (xs.map D.str)) = some (.d (.str (Txt.join sep xs))) := by
  show (if (xs.map D.str).all isTxD = true ∧ (((xs.map D.str).map strD).map (·.length)).sum + (xs.map D.str).length * sep.length ≤ 16777216 then some (O.d (.str (Txt.join sep ((xs.map D.str).map strD)))) else none) = _
  rw [strD_map, List.length_map, if_pos ⟨all_tx xs, h⟩]
theorem asc_join {sep : Str} (hs : asc sep = true) : ∀ {xs : List Str}, (∀ x ∈ xs, asc x = true) → asc (Txt.join sep xs) = true := by
  intro xs h
  rw [TL.join_eq]
  induction xs with
  | nil => rfl
  | cons x r ih =>
    cases r with
    | nil => exact h x List.mem_cons_self
    | cons y r =>
      show asc (x ++ sep ++ Str.join sep (y :: r)) = true
      exact asc_app (asc_app (h x List.mem_cons_self) hs) (ih fun z hz => h z (List.mem_cons_of_mem _ hz))
theorem len_join0 : ∀ xs : List Str, (Txt.join ("" : Str) xs).length = (xs.map (·.length)).sum := by
  intro xs
  rw [TL.join_eq]
  induction xs with
  | nil => rfl
  | cons x r ih =>
    cases r with
    | nil => show x.length = _; simp
    | cons y r =>
      show (x ++ ("" : Str) ++ Str.join ("" : Str) (y :: r)).length = _
      rw [str_len_app, str_len_app, ih, show (List.map (fun x : Str => x.length) (x :: y :: r)).sum = x.length + (List.map (fun x : Str => x.length) (y :: r)).sum from by rw [List.map_cons, List.sum_cons]]
      have : ("" : Str).length = 0 := by decide +kernel
      omega
theorem asc_one {c : Nat} (h : c < 128) : asc ⟨#[c]⟩ = true := by
  unfold asc
  show ([c] : List Nat).all _ = true
  simp [h]
theorem asc_mem {x : Str} (h : asc x = true) {c : Nat} (hc : c ∈ x.cps.toList) : c < 128 := of_decide_eq_true (List.all_eq_true.mp h c hc)
end BM

set_option Elab.async false
set_option linter.all false
set_option maxRecDepth 100000
set_option maxHeartbeats 4000000
/-! BM, part 47: sorted texts, texts in lists. -/
namespace BM
open PySem PySem.Spec PyProof.Rows L2
theorem sort_str {l : List Str} (hz : l.length ≤ sizeLine) : sortOk (l.map D.str) = true := by
  have em : (l.map D.str).map pyD = l.map PyData.str := by rw [List.map_map]; rfl
  unfold sortOk
  rw [em, List.length_map, decide_eq_true hz]
  simp only [Bool.and_eq_true, Bool.and_true, Bool.or_eq_true]
  refine ⟨⟨⟨?_, ?_⟩, .inr ?_⟩, ?_⟩
  · rw [List.all_map, List.all_eq_true]; intro g _; rfl
  · rw [List.all_eq_true]; intro p hp
    rw [List.all_eq_true]; intro q hq
    obtain ⟨a, _, rfl⟩ := List.mem_map.mp hp
    obtain ⟨b, _, rfl⟩ := List.mem_map.mp hq
    rw [PySem.W.alike]
  · rw [List.all_map, List.all_eq_true]; intro g _; rfl
  · rw [List.all_map, List.all_eq_true]; intro g _
    show decide ((PyData.str g).depth ≤ 60) = true
    rw [PyData.depth]; rfl
theorem srtT_perm (l : List Str) : (srtT l).Perm l := List.mergeSort_perm _ _
theorem fSorted_str {l : List Str} (hz : l.length ≤ sizeLine) : fSorted (.lst (l.map D.str)) = some (.lst (leaf ((srtT l).map D.str))) := by
  show (if sortOk (l.map D.str) = true then some (O.lst (leaf (srtD (l.map D.str)))) else none) = _
  rw [if_pos (sort_str hz), srtT_map]
theorem okDs_str {l : List Str} (h : ∀ x ∈ l, asc x = true) : okDs (l.map D.str) = true := okDs_map fun x hx => by rw [okD]; exact asc_ok (h x hx)
theorem dpDs_str (l : List Str) : dpDs (l.map D.str) ≤ 0 := dpDs_map fun x _ => by simp [dpD]
theorem fIn_strs {a : Str} {l : List Str} (ha : asc a = true) (h : ∀ x ∈ l, asc x = true) : ∃ b, fIn (.str a) (.lst (l.map D.str)) = some b :=
  fIn_lst (by rw [okD]; exact asc_ok ha) (by simp [dpD]) (okDs_str h) (Nat.le_trans (dpDs_str l) (by omega))
theorem sum_le {l : List Str} {B : Nat} (h : ∀ x ∈ l, x.length ≤ B) : (l.map (·.length)).sum ≤ l.length * B := by
  induction l with
  | nil => simp
  | cons x r ih =>
    have h1 := h x List.mem_cons_self
    have h2 := ih fun y hy => h y (List.mem_cons_of_mem _ hy)
    rw [List.map_cons, List.sum_cons, List.length_cons, Nat.succ_mul]; omega
theorem fAdd_ll {a b : List D} (h : a.length + b.length ≤ 1000000) : fAdd (.lst a) (.lst b) = some (.lst (leaf (a ++ b))) := by
  show (if a.length + b.length ≤ sizeLine then some (O.lst (leaf (a ++ b))) else none) = _
  rw [if_pos (by rw [sizeLine_eq]; omega)]
theorem leaf_app (a b : List D) : leaf a ++ leaf b = leaf (a ++ b) := by rw [leaf, leaf, leaf, List.map_append]
theorem leaf_snoc (l : List D) (d : D) : leaf l ++ [O.d d] = leaf (l ++ [d]) := by rw [leaf, leaf, List.map_append]; rfl
theorem leaf_lt {l : List D} (h : l.length ≤ 1000000) : (leaf l).length < sizeLine := by rw [leaf_len, sizeLine_eq]; omega
theorem sgs_asc {x : Str} (h : asc x = true) : ∀ d ∈ sgs x, ∃ y : Str, d = .str y ∧ asc y = true ∧ y.length = 1 := fun d hd => by
  obtain ⟨c, hc, rfl⟩ := List.mem_map.mp hd
  exact ⟨_, rfl, asc_one (asc_mem h hc), rfl⟩
theorem fListX_s {x : Str} (h : x.length ≤ 1000000) : fListX (.str x) = some (.lst (leaf (sgs x))) := by
  show (if x.cps.size ≤ sizeLine then some (O.lst (leaf (sgs x))) else none) = _
  rw [if_pos (by have : x.cps.size = x.length := rfl; rw [sizeLine_eq]; omega)]
theorem sgs_len (x : Str) : (sgs x).length = x.length := by unfold sgs; rw [List.length_map, len_cps]
end BM

set_option Elab.async false
set_option linter.all false
set_option maxRecDepth 100000
set_option maxHeartbeats 4000000
/-! BM, part 48: the signs of a repr; loops by place. -/
namespace BM
open PySem PySem.Spec PyProof.Rows L2
theorem rc_tab : ((List.range 128).all fun c => (Builtin.Str.reprChar 39 c).all (· < 128) && (Builtin.Str.reprChar 34 c).all (· < 128)) = true := by decide +kernel
theorem rc_one {q c : Nat} (hq : q = 39 ∨ q = 34) (h : c < 128) : ∀ d ∈ Builtin.Str.reprChar q c, d < 128 := by
  have z := List.all_eq_true.mp rc_tab c (List.mem_range.mpr h)
  rw [Bool.and_eq_true] at z
  intro d hd
  rcases hq with rfl | rfl
  · exact of_decide_eq_true (List.all_eq_true.mp z.1 d hd)
  · exact of_decide_eq_true (List.all_eq_true.mp z.2 d hd)
theorem rq_or (x : Str) : reprQuote x = 39 ∨ reprQuote x = 34 := by
  unfold reprQuote
  split
  · exact .inr rfl
  · exact .inl rfl
theorem asc_iff {x : Str} : asc x = true ↔ ∀ c ∈ x.cps.toList, c < 128 := by
  unfold asc
  rw [List.all_eq_true]
  exact ⟨fun h c hc => of_decide_eq_true (h c hc), fun h c hc => decide_eq_true (h c hc)⟩
theorem asc_repr {x : Str} (h : asc x = true) : asc (reprText x) = true := by
  have hq := rq_or x
  have q128 : reprQuote x < 128 := by rcases hq with e | e <;> rw [e] <;> decide
  have fold : ∀ (l : List Nat) (acc : Array Nat), (∀ c ∈ l, c < 128) → (∀ c ∈ acc.toList, c < 128) → ∀ c ∈ (l.foldl (fun out c => out ++ (Builtin.Str.reprChar (reprQuote x) c).toArray) acc).toList, c < 128 := by
    intro l
    induction l with
    | nil => intro acc _ h; exact h
    | cons a r ih =>
      intro acc h1 h2
      rw [List.foldl_cons]
      refine ih _ (fun c hc => h1 c (List.mem_cons_of_mem _ hc)) fun c hc => ?_
      rw [Array.toList_append] at hc
      rcases List.mem_append.mp hc with hc | hc
      · exact h2 c hc
      · exact rc_one hq (h1 a List.mem_cons_self) c (by simpa using hc)
  refine asc_iff.mpr fun c hc => ?_
  unfold reprText at hc
  rw [Array.toList_push] at hc
  rcases List.mem_append.mp hc with hc | hc
  · rw [← Array.foldl_toList] at hc
    exact fold x.cps.toList #[reprQuote x] (asc_iff.mp h) (fun c hc => by rw [List.mem_singleton.mp (show c ∈ [reprQuote x] from hc)]; exact q128) c hc
  · rw [List.mem_singleton.mp hc]; exact q128
theorem asc_textFrom : ∀ (ts : List Str) (k : Nat) (acc : Str), asc acc = true → (∀ t ∈ ts, asc t = true) → asc (textFrom k acc ts) = true
  | [], _, _, h, _ => h
  | t :: ts, k, acc, h, ht => by
    rw [textFrom]
    refine asc_textFrom ts _ _ (asc_app (asc_app h ?_) (ht t List.mem_cons_self)) fun u hu => ht u (List.mem_cons_of_mem _ hu)
    split <;> decide +kernel
theorem shownAll_str : ∀ l : List Str, PyData.shownAll (l.map PyData.str) = l.map reprText
  | [] => rfl
  | x :: r => by rw [List.map_cons, PyData.shownAll, shownAll_str r, PyData.shown]; rfl
/-- str of a list of texts -/
theorem fStrY_strs {l : List Str} (h : ∀ x ∈ l, asc x = true) (hw : wtDs (l.map D.str) ≤ 1000000) : ∃ y, fStrY (.lst (l.map D.str)) = some (.d (.str y)) ∧ asc y = true ∧ y.length ≤ wtDs (l.map D.str) + 3 := by
  have ok : okD (.lst (l.map D.str)) = true := by rw [okD]; exact okDs_str h
  obtain ⟨g1, g2, g3, g4, g5, g6⟩ := okD_py ok
  have e : pyT (.lst (l.map D.str)) = .list (l.map PyData.str) := by
    have z : ∀ l : List Str, pyTs (l.map D.str) = l.map PyData.str := fun l => by
      induction l with
      | nil => rfl
      | cons x r ih => rw [List.map_cons, pyTs, ih, pyT]; rfl
    rw [pyT, z]
  have sl := shown_len g2
  have dp : dpD (.lst (l.map D.str)) ≤ 1 := by rw [dpD]; have := dpDs_str l; omega
  have wt : wtD (.lst (l.map D.str)) = wtDs (l.map D.str) + 3 := by rw [wtD]
  have hdis : isDisplay (pyT (.lst (l.map D.str))) = true := by rw [e]; rfl
  refine ⟨(pyT (.lst (l.map D.str))).shown, ?_, ?_, by omega⟩
  · show fStrL (.lst (l.map D.str)) = _
    unfold fStrL
    rw [g1]
    simp only [hdis, g3, g4, g6, decide_eq_true (show dpD (.lst (l.map D.str)) ≤ 60 by omega), decide_eq_true (show (pyT (.lst (l.map D.str))).shown.length ≤ sizeLine by rw [sizeLine_eq]; omega)]
    rfl
  · rw [e, PyData.shown, shownAll_str]
    unfold listText
    refine asc_app (asc_textFrom _ _ _ (by decide +kernel) fun t ht => ?_) (by decide +kernel)
    obtain ⟨x, hx, rfl⟩ := List.mem_map.mp ht
    exact asc_repr (h x hx)
/-- a loop by place -/
theorem x_forS {δ : Type} {emb : δ → D} {g : D → M Unit} {body : M Fl} {P : Nat → Env → Prop} {s0 : Env} (xs : List δ) (h0 : P 0 s0)
    (k : ∀ (i : Nat) (x : δ) (s : Env), xs[i]? = some x → P i s → ∃ s1 s2, g (emb x) s = some ((), s1) ∧ body s1 = some (.nx, s2) ∧ P (i + 1) s2) : ∃ s', forL g body (xs.map emb) s0 = some (.nx, s') ∧ P xs.length s' := by
  obtain ⟨s', h1, h2⟩ := x_for (ds := xs.map emb) (g := g) (body := body) (P := P) (i := 0) h0 fun j d s hd p => by
    rw [List.getElem?_map] at hd
    cases e : xs[j]? with
    | none => rw [e] at hd; cases hd
    | some x =>
      rw [e] at hd
      cases (Option.some.inj hd)
      rw [Nat.zero_add] at p ⊢
      exact k j x s e p
  refine ⟨s', h1, ?_⟩
  rw [List.length_map, Nat.zero_add] at h2
  exact h2
theorem e_dct0 (s : Env) : mDct0 s = some (.dct [] [], s) := rfl
theorem wtDs_str {l : List Str} {B : Nat} (h : ∀ x ∈ l, x.length ≤ B) : wtDs (l.map D.str) ≤ l.length * (10 * B + 4) := by
  have := wtDs_map (f := D.str) (B := 10 * B + 2) (l := l) fun x hx => by rw [wtD]; have := h x hx; omega
  exact this
theorem wtXs_map {α : Type} {f : α → D} {B : Nat} : ∀ {l : List α}, (∀ x ∈ l, wtX (f x) ≤ B) → wtXs (l.map f) ≤ l.length * (B + 2)
  | [], _ => by simp [wtXs]
  | x :: r, h => by
    have h1 := h x List.mem_cons_self
    have h2 := wtXs_map fun y hy => h y (List.mem_cons_of_mem _ hy)
    rw [List.map_cons, wtXs, List.length_cons, Nat.succ_mul]; omega
theorem dpXs_map {α : Type} {f : α → D} {B : Nat} : ∀ {l : List α}, (∀ x ∈ l, dpX (f x) ≤ B) → dpXs (l.map f) ≤ B
  | [], _ => by simp [dpXs]
  | x :: r, h => by
    have h1 := h x List.mem_cons_self
    have h2 := dpXs_map fun y hy => h y (List.mem_cons_of_mem _ hy)
    rw [List.map_cons, dpXs]; omega
theorem okXs_all {l : List D} (h : ∀ x ∈ l, okX x = true) : okXs l = true := by
  induction l with
  | nil => rw [okXs]
  | cons x r ih => rw [okXs, h x List.mem_cons_self, ih fun y hy => h y (List.mem_cons_of_mem _ hy)]; rfl
end BM

set_option Elab.async false
set_option linter.all false
set_option maxRecDepth 100000
namespace K02
open PySem PySem.Spec PyProof.Rows L2 BM
def topS (i : Nat) : Stmt := PySem.Challenge.pw_blendmarks_k02_names_marks_places_of_any.main.body.getD i (.Pass ⟨0, 0, 0, 0⟩)
/-! ### is_word -/
abbrev s_is_word : Stmt := topS 4
abbrev N_is_word : List Str := ["thing", "letters", "letter"]
abbrev P_is_word : List Str := ["thing", "letters"]
theorem sc_is_word : FnScope N_is_word P_is_word (defScope s_is_word) := ⟨rfl, rfl, rfl, by decide +kernel, rfl, by decide +kernel, by decide +kernel⟩
def m_is_word : M Fl := sSeq (sIf (tOr (tNot (mTst truth1 [mval (mIsi "str" (mVar 0))])) (tNot (tChn fLe fLe (mC (.int 1)) (mOp (w1 fLen) [mval (mVar 0)]) (mC (.int 8))))) (sRet (mC (.bl false))) (sPass))
  (sRet (mOp (w1 fAll) [mval (mLc [2] (iSX (mVar 0)) (gNm 2) (tYes) (mOp (bO (w2b fIn)) [mval (mVar 2), mval (mVar 1)]))]))
def c_is_word : List O → Option (O × List O) := callM [false, false] 1 (m_is_word)
set_option maxHeartbeats 40000000 in
theorem ok_is_word {cfg : Cfg} {a : Addr} {f : FuncData} (F : Fun cfg.K "is_word" "is_word" s_is_word a f) {u_MOST_LETTERS : Value} (g_MOST_LETTERS : cfg.mg "MOST_LETTERS" = some u_MOST_LETTERS) (r_MOST_LETTERS : RelV (.int 8) u_MOST_LETTERS) (h_all : cfg.mg "all" = none) (h_isinstance : cfg.mg "isinstance" = none) (h_len : cfg.mg "len" = none) (h_str : cfg.mg "str" = none) : FnG cfg 1 a f P_is_word (spOf cfg.K 2 c_is_word) := by
  have nd : (Gm.mk cfg N_is_word (defScope s_is_word).names (fun _ => true) 0).N.Nodup := sc_is_word.nd
  exact fn_ok (io := [false, false]) (n := 1) (m := m_is_word) F sc_is_word
    (sb_cons (ss_if (sdT_w (sdW_or (sdT_not (sdT_tr (sod_val (sd_isi (sd_var 0) (by kernel_rfl) h_isinstance (by kernel_rfl) h_str (by decide +kernel))))) (sdW_or1 (sdT_not (sdT_chain (sd_int) (sd_callB (ns_cons ns_nil) (sods_cons (sod_val (sd_var 0)) sods_nil) ok_len (by kernel_rfl) h_len (by rfl)) (sd_glob (d := .int 8) (v := .int 8) (by kernel_rfl) g_MOST_LETTERS r_MOST_LETTERS rfl) ok_le ok_le))))) (sb_one (ss_ret (sd_bl))) (sb_nil))
    (sb_one (ss_ret (sd_callB (ns_cons ns_nil) (sods_cons (sod_val (sd_lc (own := [(("letter" : Str), 2)]) (si_seqX (sd_var 0)) rfl (sg_nm 2) (sts_nil) (sd_cmp (sods_cons (sod_val (sd_var 2)) (sods_cons (sod_val (sd_var 1)) sods_nil)) ok_in) (by decide) (by kernel_rfl) nd)) sods_nil) ok_all (by kernel_rfl) h_all (by rfl)))))
theorem b_is_word {K : PySem.W.Frag} {a : Addr} {f : FuncData} (F : Fun K "is_word" "is_word" s_is_word a f) : Binds K f P_is_word [] := F.binds fun _ _ _ _ _ _ us hl => match us, hl with | [_, _], _ => rfl
/-! ### are_rising -/
abbrev s_are_rising : Stmt := topS 5
abbrev N_are_rising : List Str := ["items", "lower", "upper"]
abbrev P_are_rising : List Str := ["items"]
theorem sc_are_rising : FnScope N_are_rising P_are_rising (defScope s_are_rising) := ⟨rfl, rfl, rfl, by decide +kernel, rfl, by decide +kernel, by decide +kernel⟩
def m_are_rising : M Fl := sRet (mOp (w1 fAll) [mval (mLc [1, 2] (iZipS (mOp fSlH [mval (mVar 0), mval (mOp (w1 fNeg) [mval (mC (.int 1))])]) (mOp fSlL [mval (mVar 0), mval (mC (.int 1))])) (gTpS [gNm 1, gNm 2]) (tYes) (mOp (bO (w2b fLt)) [mval (mVar 1), mval (mVar 2)]))])
def c_are_rising : List O → Option (O × List O) := callM [false] 2 (m_are_rising)
set_option maxHeartbeats 40000000 in
theorem ok_are_rising {cfg : Cfg} {a : Addr} {f : FuncData} (F : Fun cfg.K "are_rising" "are_rising" s_are_rising a f) (h_all : cfg.mg "all" = none) (h_zip : cfg.mg "zip" = none) : FnG cfg 1 a f P_are_rising (spOf cfg.K 1 c_are_rising) := by
  have nd : (Gm.mk cfg N_are_rising (defScope s_are_rising).names (fun _ => true) 0).N.Nodup := sc_are_rising.nd
  exact fn_ok (io := [false]) (n := 2) (m := m_are_rising) F sc_are_rising
    (sb_one (ss_ret (sd_callB (ns_cons ns_nil) (sods_cons (sod_val (sd_lc (own := [(("lower" : Str), 1), (("upper" : Str), 2)]) (si_zipS (sar_cons (sd_slH (sods_cons (sod_val (sd_var 0)) (sods_cons (sod_val (sd_un (sods_cons (sod_val (sd_int)) sods_nil) ok_neg)) sods_nil))) (sar_cons (sd_slL (sods_cons (sod_val (sd_var 0)) (sods_cons (sod_val (sd_int)) sods_nil))) sar_nil)) (ns_cons (ns_cons ns_nil)) (by kernel_rfl) h_zip) rfl (sg_tpS (sgs_cons (sg_nm 1) (sgs_cons (sg_nm 2) sgs_nil))) (sts_nil) (sd_cmp (sods_cons (sod_val (sd_var 1)) (sods_cons (sod_val (sd_var 2)) sods_nil)) ok_lt) (by decide) (by kernel_rfl) nd)) sods_nil) ok_all (by kernel_rfl) h_all (by rfl))))
theorem b_are_rising {K : PySem.W.Frag} {a : Addr} {f : FuncData} (F : Fun K "are_rising" "are_rising" s_are_rising a f) : Binds K f P_are_rising [] := F.binds fun _ _ _ _ _ _ us hl => match us, hl with | [_], _ => rfl
/-! ### l_source -/
abbrev s_l_source : Stmt := topS 11
abbrev N_l_source : List Str := ["_law_script", "_law_cells", "_law_mixed", "_law_cell"]
abbrev P_l_source : List Str := ["_law_script"]
theorem sc_l_source : FnScope N_l_source P_l_source (defScope s_l_source) := ⟨rfl, rfl, rfl, by decide +kernel, rfl, by decide +kernel, by decide +kernel⟩
def m_l_source : M Fl := sSeq (sPar 1 false 2 false (mOp (w1 fListX) [mval (mOp fSlH [mval (mVar 0), mval (mC (.int 63))])]) (mC (.int 10111)))
  (sSeq (sFor (iSX (mVar 1)) (gNm 3) (sSet 2 (mOp (w2 fMod) [mval (mOp (w2 fAdd) [mval (mOp (w2 fAdd) [mval (mOp (w2 fMul) [mval (mVar 2), mval (mC (.int 48271))]), mval (mOp (w2 fMod) [mval (mVar 3), mval (mC (.int 2147483629))])]), mval (mC (.int 37))]), mval (mC (.int 2147483587))])))
  (sRet (mDctS [("cells" : Str), ("mixed" : Str), ("made" : Str)] [mRev (mVar 1), mVar 2, mC (.int 0)])))
def c_l_source : List O → Option (O × List O) := callM [false] 3 (m_l_source)
set_option maxHeartbeats 40000000 in
theorem ok_l_source {cfg : Cfg} {a : Addr} {f : FuncData} (F : Fun cfg.K "_law_source" "_law_source" s_l_source a f) (h_list : cfg.mg "list" = none) : FnG cfg 1 a f P_l_source (spOf cfg.K 1 c_l_source) := by
  have nd : (Gm.mk cfg N_l_source (defScope s_l_source).names (fun _ => true) 0).N.Nodup := sc_l_source.nd
  exact fn_ok (io := [false]) (n := 3) (m := m_l_source) F sc_l_source
    (sb_cons (ss_par 1 false 2 false (ns_cons (ns_cons ns_nil)) (sar_cons (sd_callTy (ns_cons ns_nil) (sods_cons (sod_val (sd_slH (sods_cons (sod_val (sd_var 0)) (sods_cons (sod_val (sd_int)) sods_nil)))) sods_nil) ok_listX (by kernel_rfl) h_list (by rfl)) (sar_cons (sd_int) sar_nil)))
    (sb_cons (ss_for (si_seqX (sd_var 1)) (sg_nm 3) (sb_one (ss_set 2 (sd_bin (sods_cons (sod_val (sd_bin (sods_cons (sod_val (sd_bin (sods_cons (sod_val (sd_bin (sods_cons (sod_val (sd_var 2)) (sods_cons (sod_val (sd_int)) sods_nil)) ok_mul)) (sods_cons (sod_val (sd_bin (sods_cons (sod_val (sd_var 3)) (sods_cons (sod_val (sd_int)) sods_nil)) ok_mod)) sods_nil)) ok_add)) (sods_cons (sod_val (sd_int)) sods_nil)) ok_add)) (sods_cons (sod_val (sd_int)) sods_nil)) ok_mod))))
    (sb_one (ss_ret (sd_dctS (spr_cons sd_str (sd_rev (sd_var 1)) (spr_cons sd_str (sd_var 2) (spr_cons sd_str (sd_int) spr_nil))))))))
theorem b_l_source {K : PySem.W.Frag} {a : Addr} {f : FuncData} (F : Fun K "_law_source" "_law_source" s_l_source a f) : Binds K f P_l_source [] := F.binds fun _ _ _ _ _ _ us hl => match us, hl with | [_], _ => rfl
/-! ### l_choice -/
abbrev s_l_choice : Stmt := topS 12
abbrev N_l_choice : List Str := ["_law_source_here", "_law_many", "_law_made", "_law_number", "_law_cell"]
abbrev P_l_choice : List Str := ["_law_source_here", "_law_many"]
theorem sc_l_choice : FnScope N_l_choice P_l_choice (defScope s_l_choice) := ⟨rfl, rfl, rfl, by decide +kernel, rfl, by decide +kernel, by decide +kernel⟩
def m_l_choice : M Fl := sSeq (sPar 2 false 3 false (mOp (w2 fAdd) [mval (mGetD 0 ("made" : Str)), mval (mC (.int 1))]) (mGetD 0 ("mixed" : Str)))
  (sSeq (sSetD 0 ("made" : Str) (mVar 2))
  (sSeq (sIf (tKidNeD 0 ("cells" : Str)) (sSeq (sSet 4 (mKidPopD 0 ("cells" : Str)))
  (sSeq (sIf (mTst (w2b fGe) [mval (mVar 4), mval (mOp (w2 fPow) [mval (mC (.int 10)), mval (mC (.int 18))])]) (sSeq (sExpr (mKidAppD 0 ("cells" : Str) (mOp (w2 fDiv) [mval (mVar 4), mval (mVar 1)])))
  (sRet (mOp (w2 fMod) [mval (mVar 4), mval (mVar 1)]))) (sPass))
  (sSet 3 (mOp (w2 fAdd) [mval (mVar 3), mval (mVar 4)])))) (sPass))
  (sSeq (sSet 3 (mOp (w2 fMod) [mval (mOp (w2 fMul) [mval (mOp (w2 fAdd) [mval (mOp (w2 fAdd) [mval (mOp (w2 fMod) [mval (mVar 3), mval (mC (.int 2147483629))]), mval (mOp (w2 fMul) [mval (mOp (w2 fMul) [mval (mC (.int 66587)), mval (mVar 2)]), mval (mVar 2)])]), mval (mC (.int 43))]), mval (mC (.int 40692))]), mval (mC (.int 2147483647))]))
  (sSeq (sSet 3 (mOp (w2 fMod) [mval (mOp (w2 fAdd) [mval (mOp (w2 fAdd) [mval (mOp (w2 fMul) [mval (mVar 3), mval (mVar 3)]), mval (mOp (w2 fMul) [mval (mC (.int 69621)), mval (mVar 2)])]), mval (mC (.int 13))]), mval (mC (.int 2147483563))]))
  (sRet (mOp (w2 fMod) [mval (mOp (w2 fDiv) [mval (mOp (w2 fMod) [mval (mOp (w2 fMul) [mval (mVar 3), mval (mC (.int 39373))]), mval (mC (.int 2147483587))]), mval (mC (.int 64))]), mval (mVar 1)]))))))
def c_l_choice : List O → Option (O × List O) := callM [true, false] 3 (m_l_choice)
set_option maxHeartbeats 40000000 in
theorem ok_l_choice {cfg : Cfg} {a : Addr} {f : FuncData} (F : Fun cfg.K "_law_choice" "_law_choice" s_l_choice a f) : FnG cfg 1 a f P_l_choice (spOf cfg.K 2 c_l_choice) := by
  have nd : (Gm.mk cfg N_l_choice (defScope s_l_choice).names (fun _ => true) 0).N.Nodup := sc_l_choice.nd
  exact fn_ok (io := [true, false]) (n := 3) (m := m_l_choice) F sc_l_choice
    (sb_cons (ss_par 2 false 3 false (ns_cons (ns_cons ns_nil)) (sar_cons (sd_bin (sods_cons (sod_val (sd_getD 0 sd_str)) (sods_cons (sod_val (sd_int)) sods_nil)) ok_add) (sar_cons (sd_getD 0 sd_str) sar_nil)))
    (sb_cons (ss_setD 0 (sd_var 2) sd_str)
    (sb_cons (ss_if (sdT_kidNeD 0 sd_str) (sb_cons (ss_set 4 (sd_kidPopD 0 sd_str))
    (sb_cons (ss_if (sdT_cmp (sods_cons (sod_val (sd_var 4)) (sods_cons (sod_val (sd_bin (sods_cons (sod_val (sd_int)) (sods_cons (sod_val (sd_int)) sods_nil)) ok_pow)) sods_nil)) ok_ge) (sb_cons (ss_expr (sd_kidAppD 0 sd_str (sd_bin (sods_cons (sod_val (sd_var 4)) (sods_cons (sod_val (sd_var 1)) sods_nil)) ok_div)))
    (sb_one (ss_ret (sd_bin (sods_cons (sod_val (sd_var 4)) (sods_cons (sod_val (sd_var 1)) sods_nil)) ok_mod)))) (sb_nil))
    (sb_one (ss_set 3 (sd_bin (sods_cons (sod_val (sd_var 3)) (sods_cons (sod_val (sd_var 4)) sods_nil)) ok_add))))) (sb_nil))
    (sb_cons (ss_set 3 (sd_bin (sods_cons (sod_val (sd_bin (sods_cons (sod_val (sd_bin (sods_cons (sod_val (sd_bin (sods_cons (sod_val (sd_bin (sods_cons (sod_val (sd_var 3)) (sods_cons (sod_val (sd_int)) sods_nil)) ok_mod)) (sods_cons (sod_val (sd_bin (sods_cons (sod_val (sd_bin (sods_cons (sod_val (sd_int)) (sods_cons (sod_val (sd_var 2)) sods_nil)) ok_mul)) (sods_cons (sod_val (sd_var 2)) sods_nil)) ok_mul)) sods_nil)) ok_add)) (sods_cons (sod_val (sd_int)) sods_nil)) ok_add)) (sods_cons (sod_val (sd_int)) sods_nil)) ok_mul)) (sods_cons (sod_val (sd_int)) sods_nil)) ok_mod))
    (sb_cons (ss_set 3 (sd_bin (sods_cons (sod_val (sd_bin (sods_cons (sod_val (sd_bin (sods_cons (sod_val (sd_bin (sods_cons (sod_val (sd_var 3)) (sods_cons (sod_val (sd_var 3)) sods_nil)) ok_mul)) (sods_cons (sod_val (sd_bin (sods_cons (sod_val (sd_int)) (sods_cons (sod_val (sd_var 2)) sods_nil)) ok_mul)) sods_nil)) ok_add)) (sods_cons (sod_val (sd_int)) sods_nil)) ok_add)) (sods_cons (sod_val (sd_int)) sods_nil)) ok_mod))
    (sb_one (ss_ret (sd_bin (sods_cons (sod_val (sd_bin (sods_cons (sod_val (sd_bin (sods_cons (sod_val (sd_bin (sods_cons (sod_val (sd_var 3)) (sods_cons (sod_val (sd_int)) sods_nil)) ok_mul)) (sods_cons (sod_val (sd_int)) sods_nil)) ok_mod)) (sods_cons (sod_val (sd_int)) sods_nil)) ok_div)) (sods_cons (sod_val (sd_var 1)) sods_nil)) ok_mod))))))))
theorem b_l_choice {K : PySem.W.Frag} {a : Addr} {f : FuncData} (F : Fun K "_law_choice" "_law_choice" s_l_choice a f) : Binds K f P_l_choice [] := F.binds fun _ _ _ _ _ _ us hl => match us, hl with | [_, _], _ => rfl
/-! ### l_is_word -/
abbrev s_l_is_word : Stmt := topS 14
abbrev N_l_is_word : List Str := ["_law_it", "_law_letters", "_law_sign"]
abbrev P_l_is_word : List Str := ["_law_it", "_law_letters"]
theorem sc_l_is_word : FnScope N_l_is_word P_l_is_word (defScope s_l_is_word) := ⟨rfl, rfl, rfl, by decide +kernel, rfl, by decide +kernel, by decide +kernel⟩
def m_l_is_word : M Fl := sSeq (sIf (tOr (tNot (mTst truth1 [mval (mIsi "str" (mVar 0))])) (tOr (mTst (w2b fEq) [mval (mOp (w1 fLen) [mval (mVar 0)]), mval (mC (.int 0))]) (mTst (w2b fGt) [mval (mOp (w1 fLen) [mval (mVar 0)]), mval (mC (.int 8))]))) (sRet (mC (.bl false))) (sPass))
  (sRet (mOp (bO (w2b fEq)) [mval (mOp (w1 fLen) [mval (mLc [2] (iSX (mVar 0)) (gNm 2) (mTst (w2b fIn) [mval (mVar 2), mval (mVar 1)]) (mVar 2))]), mval (mOp (w1 fLen) [mval (mVar 0)])]))
def c_l_is_word : List O → Option (O × List O) := callM [false, false] 1 (m_l_is_word)
set_option maxHeartbeats 40000000 in
theorem ok_l_is_word {cfg : Cfg} {a : Addr} {f : FuncData} (F : Fun cfg.K "_law_is_word" "_law_is_word" s_l_is_word a f) (h_isinstance : cfg.mg "isinstance" = none) (h_len : cfg.mg "len" = none) (h_str : cfg.mg "str" = none) : FnG cfg 1 a f P_l_is_word (spOf cfg.K 2 c_l_is_word) := by
  have nd : (Gm.mk cfg N_l_is_word (defScope s_l_is_word).names (fun _ => true) 0).N.Nodup := sc_l_is_word.nd
  exact fn_ok (io := [false, false]) (n := 1) (m := m_l_is_word) F sc_l_is_word
    (sb_cons (ss_if (sdT_w (sdW_or (sdT_not (sdT_tr (sod_val (sd_isi (sd_var 0) (by kernel_rfl) h_isinstance (by kernel_rfl) h_str (by decide +kernel))))) (sdW_or (sdT_cmp (sods_cons (sod_val (sd_callB (ns_cons ns_nil) (sods_cons (sod_val (sd_var 0)) sods_nil) ok_len (by kernel_rfl) h_len (by rfl))) (sods_cons (sod_val (sd_int)) sods_nil)) ok_eq) (sdW_or1 (sdT_cmp (sods_cons (sod_val (sd_callB (ns_cons ns_nil) (sods_cons (sod_val (sd_var 0)) sods_nil) ok_len (by kernel_rfl) h_len (by rfl))) (sods_cons (sod_val (sd_int)) sods_nil)) ok_gt))))) (sb_one (ss_ret (sd_bl))) (sb_nil))
    (sb_one (ss_ret (sd_cmp (sods_cons (sod_val (sd_callB (ns_cons ns_nil) (sods_cons (sod_val (sd_lc (own := [(("_law_sign" : Str), 2)]) (si_seqX (sd_var 0)) rfl (sg_nm 2) (sts_one (sdT_cmp (sods_cons (sod_val (sd_var 2)) (sods_cons (sod_val (sd_var 1)) sods_nil)) ok_in)) (sd_var 2) (by decide) (by kernel_rfl) nd)) sods_nil) ok_len (by kernel_rfl) h_len (by rfl))) (sods_cons (sod_val (sd_callB (ns_cons ns_nil) (sods_cons (sod_val (sd_var 0)) sods_nil) ok_len (by kernel_rfl) h_len (by rfl))) sods_nil)) ok_eq))))
theorem b_l_is_word {K : PySem.W.Frag} {a : Addr} {f : FuncData} (F : Fun K "_law_is_word" "_law_is_word" s_l_is_word a f) : Binds K f P_l_is_word [] := F.binds fun _ _ _ _ _ _ us hl => match us, hl with | [_, _], _ => rfl
/-! ### is_name -/
abbrev s_is_name : Stmt := topS 7
abbrev N_is_name : List Str := ["thing"]
abbrev P_is_name : List Str := ["thing"]
theorem sc_is_name : FnScope N_is_name P_is_name (defScope s_is_name) := ⟨rfl, rfl, rfl, by decide +kernel, rfl, by decide +kernel, by decide +kernel⟩
def m_is_name : M Fl := sRet (mCall c_is_word [aval (mVar 0), aval (mC (.str ("abcdefghijklmnopqrstuvwxyz" : Str)))])
def c_is_name : List O → Option (O × List O) := callM [false] 0 (m_is_name)
set_option maxHeartbeats 40000000 in
theorem ok_is_name {cfg : Cfg} {a : Addr} {f : FuncData} (F : Fun cfg.K "is_name" "is_name" s_is_name a f) {u_LOWER_CASE : Value} (g_LOWER_CASE : cfg.mg "LOWER_CASE" = some u_LOWER_CASE) (r_LOWER_CASE : RelV (.str ("abcdefghijklmnopqrstuvwxyz" : Str)) u_LOWER_CASE) {a_is_word : Addr} {f_is_word : FuncData} (F_is_word : Fun cfg.K "is_word" "is_word" s_is_word a_is_word f_is_word) (D_is_word : FnD cfg 1 "is_word" a_is_word f_is_word P_is_word 2 c_is_word) (B_is_word : Binds cfg.K f_is_word P_is_word []) : FnG cfg 2 a f P_is_name (spOf cfg.K 1 c_is_name) := by
  have nd : (Gm.mk cfg N_is_name (defScope s_is_name).names (fun _ => true) 1).N.Nodup := sc_is_name.nd
  exact fn_ok (io := [false]) (n := 0) (m := m_is_name) F sc_is_name
    (sb_one (ss_ret (sd_call D_is_word B_is_word (ns_cons (ns_cons ns_nil)) (sars_cons (sar_val (sd_var 0)) (sars_cons (sar_val (sd_glob (d := .str ("abcdefghijklmnopqrstuvwxyz" : Str)) (v := .str ("abcdefghijklmnopqrstuvwxyz" : Str)) (by kernel_rfl) g_LOWER_CASE r_LOWER_CASE rfl)) sars_nil)))))
theorem b_is_name {K : PySem.W.Frag} {a : Addr} {f : FuncData} (F : Fun K "is_name" "is_name" s_is_name a f) : Binds K f P_is_name [] := F.binds fun _ _ _ _ _ _ us hl => match us, hl with | [_], _ => rfl
theorem kb_is_name_0_thing {K : PySem.W.Frag} {a : Addr} {f : FuncData} (F : Fun K "is_name" "is_name" s_is_name a f) : KBn K f P_is_name 0 ["thing"] (fun us ws => permL [0] (us ++ ws)) (fun vs zs => permL [0] (vs ++ zs)) := by
  obtain ⟨oc, od, kV, doc, pm, an, cdv, ct, osl, rfl, lk, hcd⟩ := F.ex
  exact kbn_of fun s us ws l1 l2 => match us, ws, l1, l2 with | [], [z0], _, _ => .of_eq rfl
/-! ### is_mark -/
abbrev s_is_mark : Stmt := topS 8
abbrev N_is_mark : List Str := ["thing"]
abbrev P_is_mark : List Str := ["thing"]
theorem sc_is_mark : FnScope N_is_mark P_is_mark (defScope s_is_mark) := ⟨rfl, rfl, rfl, by decide +kernel, rfl, by decide +kernel, by decide +kernel⟩
def m_is_mark : M Fl := sRet (mCall c_is_word [aval (mVar 0), aval (mC (.str ("ABCDEFGHIJKLMNOPQRSTUVWXYZ" : Str)))])
def c_is_mark : List O → Option (O × List O) := callM [false] 0 (m_is_mark)
set_option maxHeartbeats 40000000 in
theorem ok_is_mark {cfg : Cfg} {a : Addr} {f : FuncData} (F : Fun cfg.K "is_mark" "is_mark" s_is_mark a f) {u_UPPER_CASE : Value} (g_UPPER_CASE : cfg.mg "UPPER_CASE" = some u_UPPER_CASE) (r_UPPER_CASE : RelV (.str ("ABCDEFGHIJKLMNOPQRSTUVWXYZ" : Str)) u_UPPER_CASE) {a_is_word : Addr} {f_is_word : FuncData} (F_is_word : Fun cfg.K "is_word" "is_word" s_is_word a_is_word f_is_word) (D_is_word : FnD cfg 1 "is_word" a_is_word f_is_word P_is_word 2 c_is_word) (B_is_word : Binds cfg.K f_is_word P_is_word []) : FnG cfg 2 a f P_is_mark (spOf cfg.K 1 c_is_mark) := by
  have nd : (Gm.mk cfg N_is_mark (defScope s_is_mark).names (fun _ => true) 1).N.Nodup := sc_is_mark.nd
  exact fn_ok (io := [false]) (n := 0) (m := m_is_mark) F sc_is_mark
    (sb_one (ss_ret (sd_call D_is_word B_is_word (ns_cons (ns_cons ns_nil)) (sars_cons (sar_val (sd_var 0)) (sars_cons (sar_val (sd_glob (d := .str ("ABCDEFGHIJKLMNOPQRSTUVWXYZ" : Str)) (v := .str ("ABCDEFGHIJKLMNOPQRSTUVWXYZ" : Str)) (by kernel_rfl) g_UPPER_CASE r_UPPER_CASE rfl)) sars_nil)))))
theorem b_is_mark {K : PySem.W.Frag} {a : Addr} {f : FuncData} (F : Fun K "is_mark" "is_mark" s_is_mark a f) : Binds K f P_is_mark [] := F.binds fun _ _ _ _ _ _ us hl => match us, hl with | [_], _ => rfl
theorem kb_is_mark_0_thing {K : PySem.W.Frag} {a : Addr} {f : FuncData} (F : Fun K "is_mark" "is_mark" s_is_mark a f) : KBn K f P_is_mark 0 ["thing"] (fun us ws => permL [0] (us ++ ws)) (fun vs zs => permL [0] (vs ++ zs)) := by
  obtain ⟨oc, od, kV, doc, pm, an, cdv, ct, osl, rfl, lk, hcd⟩ := F.ex
  exact kbn_of fun s us ws l1 l2 => match us, ws, l1, l2 with | [], [z0], _, _ => .of_eq rfl
/-! ### l_one_of -/
abbrev s_l_one_of : Stmt := topS 13
abbrev N_l_one_of : List Str := ["_law_source_here", "_law_items"]
abbrev P_l_one_of : List Str := ["_law_source_here", "_law_items"]
theorem sc_l_one_of : FnScope N_l_one_of P_l_one_of (defScope s_l_one_of) := ⟨rfl, rfl, rfl, by decide +kernel, rfl, by decide +kernel, by decide +kernel⟩
def m_l_one_of : M Fl := sRet (mOp (w2 fIx) [mval (mVar 1), mval (mCall c_l_choice [aplc' 0, aval (mOp (w1 fLen) [mval (mVar 1)])])])
def c_l_one_of : List O → Option (O × List O) := callM [true, false] 0 (m_l_one_of)
set_option maxHeartbeats 40000000 in
theorem ok_l_one_of {cfg : Cfg} {a : Addr} {f : FuncData} (F : Fun cfg.K "_law_one_of" "_law_one_of" s_l_one_of a f) {a_l_choice : Addr} {f_l_choice : FuncData} (F_l_choice : Fun cfg.K "_law_choice" "_law_choice" s_l_choice a_l_choice f_l_choice) (D_l_choice : FnD cfg 1 "_law_choice" a_l_choice f_l_choice P_l_choice 2 c_l_choice) (B_l_choice : Binds cfg.K f_l_choice P_l_choice []) (h_len : cfg.mg "len" = none) : FnG cfg 2 a f P_l_one_of (spOf cfg.K 2 c_l_one_of) := by
  have nd : (Gm.mk cfg N_l_one_of (defScope s_l_one_of).names (fun _ => true) 1).N.Nodup := sc_l_one_of.nd
  exact fn_ok (io := [true, false]) (n := 0) (m := m_l_one_of) F sc_l_one_of
    (sb_one (ss_ret (sd_ix (sods_cons (sod_val (sd_var 1)) (sods_cons (sod_val (sd_call D_l_choice B_l_choice (ns_cons (ns_cons ns_nil)) (sars_cons (sar_plc 0) (sars_cons (sar_val (sd_callB (ns_cons ns_nil) (sods_cons (sod_val (sd_var 1)) sods_nil) ok_len (by kernel_rfl) h_len (by rfl))) sars_nil)))) sods_nil)) ok_ix)))
theorem b_l_one_of {K : PySem.W.Frag} {a : Addr} {f : FuncData} (F : Fun K "_law_one_of" "_law_one_of" s_l_one_of a f) : Binds K f P_l_one_of [] := F.binds fun _ _ _ _ _ _ us hl => match us, hl with | [_, _], _ => rfl
/-! ### l_is_place -/
abbrev s_l_is_place : Stmt := topS 15
abbrev N_l_is_place : List Str := ["_law_it", "_law_mark", "_law_k"]
abbrev P_l_is_place : List Str := ["_law_it"]
theorem sc_l_is_place : FnScope N_l_is_place P_l_is_place (defScope s_l_is_place) := ⟨rfl, rfl, rfl, by decide +kernel, rfl, by decide +kernel, by decide +kernel⟩
def m_l_is_place : M Fl := sSeq (sIf (tOr (tNot (mTst truth1 [mval (mIsi "tuple" (mVar 0))])) (mTst (w2b fEq) [mval (mOp (w1 fLen) [mval (mVar 0)]), mval (mC (.int 0))])) (sRet (mC (.bl false))) (sPass))
  (sSeq (sIf (mTst (w2b fNeZ) [mval (mLc [1] (iSX (mVar 0)) (gNm 1) (tNot (mTst truth1 [mval (mCall c_l_is_word [aval (mVar 1), aval (mC (.str ("ABCDEFGHIJKLMNOPQRSTUVWXYZ" : Str)))])])) (mVar 1)), mval (mLst [])]) (sRet (mC (.bl false))) (sPass))
  (sRet (mOp (bO (w2b fEqZ)) [mval (mLc [2] (iR1 (mOp (w2 fSub) [mval (mOp (w1 fLen) [mval (mVar 0)]), mval (mC (.int 1))])) (gNm 2) (mTst (w2b fGe) [mval (mOp (w2 fIx) [mval (mVar 0), mval (mVar 2)]), mval (mOp (w2 fIx) [mval (mVar 0), mval (mOp (w2 fAdd) [mval (mVar 2), mval (mC (.int 1))])])]) (mVar 2)), mval (mLst [])])))
def c_l_is_place : List O → Option (O × List O) := callM [false] 2 (m_l_is_place)
set_option maxHeartbeats 40000000 in
theorem ok_l_is_place {cfg : Cfg} {a : Addr} {f : FuncData} (F : Fun cfg.K "_law_is_place" "_law_is_place" s_l_is_place a f) {a_l_is_word : Addr} {f_l_is_word : FuncData} (F_l_is_word : Fun cfg.K "_law_is_word" "_law_is_word" s_l_is_word a_l_is_word f_l_is_word) (D_l_is_word : FnD cfg 1 "_law_is_word" a_l_is_word f_l_is_word P_l_is_word 2 c_l_is_word) (B_l_is_word : Binds cfg.K f_l_is_word P_l_is_word []) (h_isinstance : cfg.mg "isinstance" = none) (h_len : cfg.mg "len" = none) (h_range : cfg.mg "range" = none) (h_tuple : cfg.mg "tuple" = none) : FnG cfg 2 a f P_l_is_place (spOf cfg.K 1 c_l_is_place) := by
  have nd : (Gm.mk cfg N_l_is_place (defScope s_l_is_place).names (fun _ => true) 1).N.Nodup := sc_l_is_place.nd
  exact fn_ok (io := [false]) (n := 2) (m := m_l_is_place) F sc_l_is_place
    (sb_cons (ss_if (sdT_w (sdW_or (sdT_not (sdT_tr (sod_val (sd_isi (sd_var 0) (by kernel_rfl) h_isinstance (by kernel_rfl) h_tuple (by decide +kernel))))) (sdW_or1 (sdT_cmp (sods_cons (sod_val (sd_callB (ns_cons ns_nil) (sods_cons (sod_val (sd_var 0)) sods_nil) ok_len (by kernel_rfl) h_len (by rfl))) (sods_cons (sod_val (sd_int)) sods_nil)) ok_eq)))) (sb_one (ss_ret (sd_bl))) (sb_nil))
    (sb_cons (ss_if (sdT_cmp (sods_cons (sod_val (sd_lc (own := [(("_law_mark" : Str), 1)]) (si_seqX (sd_var 0)) rfl (sg_nm 1) (sts_one (sdT_not (sdT_tr (sod_val (sd_call D_l_is_word B_l_is_word (ns_cons (ns_cons ns_nil)) (sars_cons (sar_val (sd_var 1)) (sars_cons (sar_val (sd_str)) sars_nil))))))) (sd_var 1) (by decide) (by kernel_rfl) nd)) (sods_cons (sod_val (sd_lst ns_nil sar_nil)) sods_nil)) ok_neZ) (sb_one (ss_ret (sd_bl))) (sb_nil))
    (sb_one (ss_ret (sd_cmp (sods_cons (sod_val (sd_lc (own := [(("_law_k" : Str), 2)]) (si_r1 (sd_bin (sods_cons (sod_val (sd_callB (ns_cons ns_nil) (sods_cons (sod_val (sd_var 0)) sods_nil) ok_len (by kernel_rfl) h_len (by rfl))) (sods_cons (sod_val (sd_int)) sods_nil)) ok_sub) (by kernel_rfl) h_range) rfl (sg_nm 2) (sts_one (sdT_cmp (sods_cons (sod_val (sd_ix (sods_cons (sod_val (sd_var 0)) (sods_cons (sod_val (sd_var 2)) sods_nil)) ok_ix)) (sods_cons (sod_val (sd_ix (sods_cons (sod_val (sd_var 0)) (sods_cons (sod_val (sd_bin (sods_cons (sod_val (sd_var 2)) (sods_cons (sod_val (sd_int)) sods_nil)) ok_add)) sods_nil)) ok_ix)) sods_nil)) ok_ge)) (sd_var 2) (by decide) (by kernel_rfl) nd)) (sods_cons (sod_val (sd_lst ns_nil sar_nil)) sods_nil)) ok_eqZ)))))
theorem b_l_is_place {K : PySem.W.Frag} {a : Addr} {f : FuncData} (F : Fun K "_law_is_place" "_law_is_place" s_l_is_place a f) : Binds K f P_l_is_place [] := F.binds fun _ _ _ _ _ _ us hl => match us, hl with | [_], _ => rfl
/-! ### is_place -/
abbrev s_is_place : Stmt := topS 9
abbrev N_is_place : List Str := ["thing", "mark"]
abbrev P_is_place : List Str := ["thing"]
theorem sc_is_place : FnScope N_is_place P_is_place (defScope s_is_place) := ⟨rfl, rfl, rfl, by decide +kernel, rfl, by decide +kernel, by decide +kernel⟩
def m_is_place : M Fl := sSeq (sIf (tOr (tNot (mTst truth1 [mval (mIsi "tuple" (mVar 0))])) (mTst (w2b fEqZ) [mval (mVar 0), mval (mTup [])])) (sRet (mC (.bl false))) (sPass))
  (sRet (mAnd (mOp (w1 fAll) [mval (mLc [1] (iSX (mVar 0)) (gNm 1) (tYes) (mCall c_is_mark [aval (mVar 1)]))]) (mCall c_are_rising [aval (mVar 0)])))
def c_is_place : List O → Option (O × List O) := callM [false] 1 (m_is_place)
set_option maxHeartbeats 40000000 in
theorem ok_is_place {cfg : Cfg} {a : Addr} {f : FuncData} (F : Fun cfg.K "is_place" "is_place" s_is_place a f) (h_all : cfg.mg "all" = none) {a_are_rising : Addr} {f_are_rising : FuncData} (F_are_rising : Fun cfg.K "are_rising" "are_rising" s_are_rising a_are_rising f_are_rising) (D_are_rising : FnD cfg 1 "are_rising" a_are_rising f_are_rising P_are_rising 1 c_are_rising) (B_are_rising : Binds cfg.K f_are_rising P_are_rising []) {a_is_mark : Addr} {f_is_mark : FuncData} (F_is_mark : Fun cfg.K "is_mark" "is_mark" s_is_mark a_is_mark f_is_mark) (D_is_mark : FnD cfg 2 "is_mark" a_is_mark f_is_mark P_is_mark 1 c_is_mark) (B_is_mark : Binds cfg.K f_is_mark P_is_mark []) (h_isinstance : cfg.mg "isinstance" = none) (h_tuple : cfg.mg "tuple" = none) : FnG cfg 3 a f P_is_place (spOf cfg.K 1 c_is_place) := by
  have nd : (Gm.mk cfg N_is_place (defScope s_is_place).names (fun _ => true) 2).N.Nodup := sc_is_place.nd
  exact fn_ok (io := [false]) (n := 1) (m := m_is_place) F sc_is_place
    (sb_cons (ss_if (sdT_w (sdW_or (sdT_not (sdT_tr (sod_val (sd_isi (sd_var 0) (by kernel_rfl) h_isinstance (by kernel_rfl) h_tuple (by decide +kernel))))) (sdW_or1 (sdT_cmp (sods_cons (sod_val (sd_var 0)) (sods_cons (sod_val (sd_tup ns_nil sar_nil)) sods_nil)) ok_eqZ)))) (sb_one (ss_ret (sd_bl))) (sb_nil))
    (sb_one (ss_ret (sd_and (sd_callB (ns_cons ns_nil) (sods_cons (sod_val (sd_lc (own := [(("mark" : Str), 1)]) (si_seqX (sd_var 0)) rfl (sg_nm 1) (sts_nil) (sd_call D_is_mark B_is_mark (ns_cons ns_nil) (sars_cons (sar_val (sd_var 1)) sars_nil)) (by decide) (by kernel_rfl) nd)) sods_nil) ok_all (by kernel_rfl) h_all (by rfl)) (sd_one (sd_call D_are_rising B_are_rising (ns_cons ns_nil) (sars_cons (sar_val (sd_var 0)) sars_nil)))))))
theorem b_is_place {K : PySem.W.Frag} {a : Addr} {f : FuncData} (F : Fun K "is_place" "is_place" s_is_place a f) : Binds K f P_is_place [] := F.binds fun _ _ _ _ _ _ us hl => match us, hl with | [_], _ => rfl
theorem kb_is_place_0_thing {K : PySem.W.Frag} {a : Addr} {f : FuncData} (F : Fun K "is_place" "is_place" s_is_place a f) : KBn K f P_is_place 0 ["thing"] (fun us ws => permL [0] (us ++ ws)) (fun vs zs => permL [0] (vs ++ zs)) := by
  obtain ⟨oc, od, kV, doc, pm, an, cdv, ct, osl, rfl, lk, hcd⟩ := F.ex
  exact kbn_of fun s us ws l1 l2 => match us, ws, l1, l2 with | [], [z0], _, _ => .of_eq rfl
/-! ### l_word -/
abbrev s_l_word : Stmt := topS 16
abbrev N_l_word : List Str := ["_law_source_here", "_law_letters", "_law_size", "_law_found", "_law_k", "_law_at", "_law_other_here"]
abbrev P_l_word : List Str := ["_law_source_here"]
theorem sc_l_word : FnScope N_l_word P_l_word (defScope s_l_word) := ⟨rfl, rfl, rfl, by decide +kernel, rfl, by decide +kernel, by decide +kernel⟩
def m_l_word : M Fl := sSeq (sSet 1 (mCall c_l_one_of [aplc' 0, aval (mLst [mC (.str ("abcdefghijklmnopqrstuvwxyz" : Str)), mC (.str ("ABCDEFGHIJKLMNOPQRSTUVWXYZ" : Str)), mC (.str ("az" : Str)), mC (.str ("AZ" : Str))])]))
  (sSeq (sSet 2 (mCall c_l_one_of [aplc' 0, aval (mLst [mC (.int 0), mC (.int 1), mC (.int 1), mC (.int 2), mC (.int 3), mC (.int 7), mC (.int 8), mC (.int 8), mC (.int 9), mC (.int 12)])]))
  (sSeq (sSet 3 (mJoin2 (mC (.str ("" : Str))) (mLc [4] (iR1 (mVar 2)) (gNm 4) (tYes) (mCall c_l_one_of [aplc' 0, aval (mVar 1)]))))
  (sSeq (sIf (mTst (w2b fEq) [mval (mCall c_l_choice [aplc' 0, aval (mC (.int 3))]), mval (mC (.int 0))]) (sSeq (sSet 5 (mCall c_l_choice [aplc' 0, aval (mOp (w2 fAdd) [mval (mVar 2), mval (mC (.int 1))])]))
  (sSeq (sSet 6 (mCall c_l_one_of [aplc' 0, aval (mOp (w2 fAdd) [mval (mOp (w1 fListX) [mval (mC (.str (" _-.,?0129{}[]@`
/|~" : Str)))]), mval (mLst [mC (.str ("a" : Str)), mC (.str ("z" : Str)), mC (.str ("A" : Str)), mC (.str ("Z" : Str)), mC (.str ("" : Str))])])]))
  (sSet 3 (mOp (w2 fAdd) [mval (mOp (w2 fAdd) [mval (mOp fSlH [mval (mVar 3), mval (mVar 5)]), mval (mVar 6)]), mval (mOp fSlL [mval (mVar 3), mval (mOp (w2 fAdd) [mval (mVar 5), mval (mCall c_l_choice [aplc' 0, aval (mC (.int 2))])])])])))) (sPass))
  (sRet (mVar 3)))))
def c_l_word : List O → Option (O × List O) := callM [true] 6 (m_l_word)
set_option maxHeartbeats 40000000 in
theorem ok_l_word {cfg : Cfg} {a : Addr} {f : FuncData} (F : Fun cfg.K "_law_word" "_law_word" s_l_word a f) {a_l_choice : Addr} {f_l_choice : FuncData} (F_l_choice : Fun cfg.K "_law_choice" "_law_choice" s_l_choice a_l_choice f_l_choice) (D_l_choice : FnD cfg 1 "_law_choice" a_l_choice f_l_choice P_l_choice 2 c_l_choice) (B_l_choice : Binds cfg.K f_l_choice P_l_choice []) {a_l_one_of : Addr} {f_l_one_of : FuncData} (F_l_one_of : Fun cfg.K "_law_one_of" "_law_one_of" s_l_one_of a_l_one_of f_l_one_of) (D_l_one_of : FnD cfg 2 "_law_one_of" a_l_one_of f_l_one_of P_l_one_of 2 c_l_one_of) (B_l_one_of : Binds cfg.K f_l_one_of P_l_one_of []) (h_list : cfg.mg "list" = none) (h_range : cfg.mg "range" = none) : FnG cfg 3 a f P_l_word (spOf cfg.K 1 c_l_word) := by
  have nd : (Gm.mk cfg N_l_word (defScope s_l_word).names (fun _ => true) 2).N.Nodup := sc_l_word.nd
  exact fn_ok (io := [true]) (n := 6) (m := m_l_word) F sc_l_word
    (sb_cons (ss_set 1 (sd_call D_l_one_of B_l_one_of (ns_cons (ns_cons ns_nil)) (sars_cons (sar_plc 0) (sars_cons (sar_val (sd_lst (ns_cons (ns_cons (ns_cons (ns_cons ns_nil)))) (sar_cons (sd_str) (sar_cons (sd_str) (sar_cons (sd_str) (sar_cons (sd_str) sar_nil)))))) sars_nil))))
    (sb_cons (ss_set 2 (sd_call D_l_one_of B_l_one_of (ns_cons (ns_cons ns_nil)) (sars_cons (sar_plc 0) (sars_cons (sar_val (sd_lst (ns_cons (ns_cons (ns_cons (ns_cons (ns_cons (ns_cons (ns_cons (ns_cons (ns_cons (ns_cons ns_nil)))))))))) (sar_cons (sd_int) (sar_cons (sd_int) (sar_cons (sd_int) (sar_cons (sd_int) (sar_cons (sd_int) (sar_cons (sd_int) (sar_cons (sd_int) (sar_cons (sd_int) (sar_cons (sd_int) (sar_cons (sd_int) sar_nil)))))))))))) sars_nil))))
    (sb_cons (ss_set 3 (sd_join (sd_str) (sd_lc (own := [(("_law_k" : Str), 4)]) (si_r1 (sd_var 2) (by kernel_rfl) h_range) rfl (sg_nm 4) (sts_nil) (sd_call D_l_one_of B_l_one_of (ns_cons (ns_cons ns_nil)) (sars_cons (sar_plc 0) (sars_cons (sar_val (sd_var 1)) sars_nil))) (by decide) (by kernel_rfl) nd) (ns_cons ns_nil)))
    (sb_cons (ss_if (sdT_cmp (sods_cons (sod_val (sd_call D_l_choice B_l_choice (ns_cons (ns_cons ns_nil)) (sars_cons (sar_plc 0) (sars_cons (sar_val (sd_int)) sars_nil)))) (sods_cons (sod_val (sd_int)) sods_nil)) ok_eq) (sb_cons (ss_set 5 (sd_call D_l_choice B_l_choice (ns_cons (ns_cons ns_nil)) (sars_cons (sar_plc 0) (sars_cons (sar_val (sd_bin (sods_cons (sod_val (sd_var 2)) (sods_cons (sod_val (sd_int)) sods_nil)) ok_add)) sars_nil))))
    (sb_cons (ss_set 6 (sd_call D_l_one_of B_l_one_of (ns_cons (ns_cons ns_nil)) (sars_cons (sar_plc 0) (sars_cons (sar_val (sd_bin (sods_cons (sod_val (sd_callTy (ns_cons ns_nil) (sods_cons (sod_val (sd_str)) sods_nil) ok_listX (by kernel_rfl) h_list (by rfl))) (sods_cons (sod_val (sd_lst (ns_cons (ns_cons (ns_cons (ns_cons (ns_cons ns_nil))))) (sar_cons (sd_str) (sar_cons (sd_str) (sar_cons (sd_str) (sar_cons (sd_str) (sar_cons (sd_str) sar_nil))))))) sods_nil)) ok_add)) sars_nil))))
    (sb_one (ss_set 3 (sd_bin (sods_cons (sod_val (sd_bin (sods_cons (sod_val (sd_slH (sods_cons (sod_val (sd_var 3)) (sods_cons (sod_val (sd_var 5)) sods_nil)))) (sods_cons (sod_val (sd_var 6)) sods_nil)) ok_add)) (sods_cons (sod_val (sd_slL (sods_cons (sod_val (sd_var 3)) (sods_cons (sod_val (sd_bin (sods_cons (sod_val (sd_var 5)) (sods_cons (sod_val (sd_call D_l_choice B_l_choice (ns_cons (ns_cons ns_nil)) (sars_cons (sar_plc 0) (sars_cons (sar_val (sd_int)) sars_nil)))) sods_nil)) ok_add)) sods_nil)))) sods_nil)) ok_add))))) (sb_nil))
    (sb_one (ss_ret (sd_var 3)))))))
theorem b_l_word {K : PySem.W.Frag} {a : Addr} {f : FuncData} (F : Fun K "_law_word" "_law_word" s_l_word a f) : Binds K f P_l_word [] := F.binds fun _ _ _ _ _ _ us hl => match us, hl with | [_], _ => rfl
/-! ### l_marks -/
abbrev s_l_marks : Stmt := topS 17
abbrev N_l_marks : List Str := ["_law_source_here", "_law_found", "_law_k", "_law_mark", "_law_n"]
abbrev P_l_marks : List Str := ["_law_source_here"]
theorem sc_l_marks : FnScope N_l_marks P_l_marks (defScope s_l_marks) := ⟨rfl, rfl, rfl, by decide +kernel, rfl, by decide +kernel, by decide +kernel⟩
def m_l_marks : M Fl := sSeq (sSetO 1 (mLst []))
  (sSeq (sFor (iR1 (mCall c_l_choice [aplc' 0, aval (mC (.int 6))])) (gNm 2) (sSeq (sSet 3 (mJoin2 (mC (.str ("" : Str))) (mLc [4] (iR1 (mOp (w2 fAdd) [mval (mC (.int 1)), mval (mCall c_l_choice [aplc' 0, aval (mC (.int 4))])])) (gNm 4) (tYes) (mCall c_l_one_of [aplc' 0, aval (mC (.str ("ABZ" : Str)))]))))
  (sSeq (sIf (mTst (w2b fEq) [mval (mCall c_l_choice [aplc' 0, aval (mC (.int 4))]), mval (mC (.int 0))]) (sSet 3 (mOp (w2 fAdd) [mval (mVar 3), mval (mOp fSlL [mval (mC (.str ("ABCDEFGH" : Str))), mval (mOp (w1 fLen) [mval (mVar 3)])])])) (sPass))
  (sIf (mTst (w2b fNotIn) [mval (mVar 3), mPl 1]) (sExpr (mApp 1 (mVar 3))) (sPass)))))
  (sRet (mOp (w1 fSorted) [mPl 1])))
def c_l_marks : List O → Option (O × List O) := callM [true] 4 (m_l_marks)
set_option maxHeartbeats 40000000 in
theorem ok_l_marks {cfg : Cfg} {a : Addr} {f : FuncData} (F : Fun cfg.K "_law_marks" "_law_marks" s_l_marks a f) {a_l_choice : Addr} {f_l_choice : FuncData} (F_l_choice : Fun cfg.K "_law_choice" "_law_choice" s_l_choice a_l_choice f_l_choice) (D_l_choice : FnD cfg 1 "_law_choice" a_l_choice f_l_choice P_l_choice 2 c_l_choice) (B_l_choice : Binds cfg.K f_l_choice P_l_choice []) {a_l_one_of : Addr} {f_l_one_of : FuncData} (F_l_one_of : Fun cfg.K "_law_one_of" "_law_one_of" s_l_one_of a_l_one_of f_l_one_of) (D_l_one_of : FnD cfg 2 "_law_one_of" a_l_one_of f_l_one_of P_l_one_of 2 c_l_one_of) (B_l_one_of : Binds cfg.K f_l_one_of P_l_one_of []) (h_len : cfg.mg "len" = none) (h_range : cfg.mg "range" = none) (h_sorted : cfg.mg "sorted" = none) : FnG cfg 3 a f P_l_marks (spOf cfg.K 1 c_l_marks) := by
  have nd : (Gm.mk cfg N_l_marks (defScope s_l_marks).names (fun _ => true) 2).N.Nodup := sc_l_marks.nd
  exact fn_ok (io := [true]) (n := 4) (m := m_l_marks) F sc_l_marks
    (sb_cons (ss_setO 1 (sd_lst ns_nil sar_nil))
    (sb_cons (ss_for (si_r1 (sd_call D_l_choice B_l_choice (ns_cons (ns_cons ns_nil)) (sars_cons (sar_plc 0) (sars_cons (sar_val (sd_int)) sars_nil))) (by kernel_rfl) h_range) (sg_nm 2) (sb_cons (ss_set 3 (sd_join (sd_str) (sd_lc (own := [(("_law_n" : Str), 4)]) (si_r1 (sd_bin (sods_cons (sod_val (sd_int)) (sods_cons (sod_val (sd_call D_l_choice B_l_choice (ns_cons (ns_cons ns_nil)) (sars_cons (sar_plc 0) (sars_cons (sar_val (sd_int)) sars_nil)))) sods_nil)) ok_add) (by kernel_rfl) h_range) rfl (sg_nm 4) (sts_nil) (sd_call D_l_one_of B_l_one_of (ns_cons (ns_cons ns_nil)) (sars_cons (sar_plc 0) (sars_cons (sar_val (sd_str)) sars_nil))) (by decide) (by kernel_rfl) nd) (ns_cons ns_nil)))
    (sb_cons (ss_if (sdT_cmp (sods_cons (sod_val (sd_call D_l_choice B_l_choice (ns_cons (ns_cons ns_nil)) (sars_cons (sar_plc 0) (sars_cons (sar_val (sd_int)) sars_nil)))) (sods_cons (sod_val (sd_int)) sods_nil)) ok_eq) (sb_one (ss_set 3 (sd_bin (sods_cons (sod_val (sd_var 3)) (sods_cons (sod_val (sd_slL (sods_cons (sod_val (sd_str)) (sods_cons (sod_val (sd_callB (ns_cons ns_nil) (sods_cons (sod_val (sd_var 3)) sods_nil) ok_len (by kernel_rfl) h_len (by rfl))) sods_nil)))) sods_nil)) ok_add))) (sb_nil))
    (sb_one (ss_if (sdT_cmp (sods_cons (sod_val (sd_var 3)) (sods_cons (sod_pl 1) sods_nil)) ok_notIn) (sb_one (ss_expr (sd_app 1 (sd_var 3)))) (sb_nil))))))
    (sb_one (ss_ret (sd_callB (ns_cons ns_nil) (sods_cons (sod_pl 1) sods_nil) ok_sorted (by kernel_rfl) h_sorted (by rfl))))))
theorem b_l_marks {K : PySem.W.Frag} {a : Addr} {f : FuncData} (F : Fun K "_law_marks" "_law_marks" s_l_marks a f) : Binds K f P_l_marks [] := F.binds fun _ _ _ _ _ _ us hl => match us, hl with | [_], _ => rfl
/-! ### l_other -/
abbrev s_l_other : Stmt := topS 18
abbrev N_l_other : List Str := ["_law_source_here", "_law_it", "_law_some"]
abbrev P_l_other : List Str := ["_law_source_here", "_law_it"]
theorem sc_l_other : FnScope N_l_other P_l_other (defScope s_l_other) := ⟨rfl, rfl, rfl, by decide +kernel, rfl, by decide +kernel, by decide +kernel⟩
def m_l_other : M Fl := sSeq (sSet 2 (mLst [mC .non, mC (.bl true), mC (.int 0), mC (.str ("" : Str)), mC (.str ("a" : Str)), mC (.str ("A" : Str)), mTup [], mTup [mC (.str ("A" : Str))], mLst [], mLst [mC (.str ("A" : Str))], mDct0, mDctS [("A" : Str)] [mC (.int 1)], mOp (w2 fPow) [mval (mC (.int 10)), mval (mC (.int 39))], mTup [mVar 1], mLst [mVar 1], mOp (w1 fStrY) [mval (mVar 1)]]))
  (sRet (mCall c_l_one_of [aplc' 0, aval (mVar 2)]))
def c_l_other : List O → Option (O × List O) := callM [true, false] 1 (m_l_other)
set_option maxHeartbeats 40000000 in
theorem ok_l_other {cfg : Cfg} {a : Addr} {f : FuncData} (F : Fun cfg.K "_law_other" "_law_other" s_l_other a f) {a_l_one_of : Addr} {f_l_one_of : FuncData} (F_l_one_of : Fun cfg.K "_law_one_of" "_law_one_of" s_l_one_of a_l_one_of f_l_one_of) (D_l_one_of : FnD cfg 2 "_law_one_of" a_l_one_of f_l_one_of P_l_one_of 2 c_l_one_of) (B_l_one_of : Binds cfg.K f_l_one_of P_l_one_of []) (h_str : cfg.mg "str" = none) : FnG cfg 3 a f P_l_other (spOf cfg.K 2 c_l_other) := by
  have nd : (Gm.mk cfg N_l_other (defScope s_l_other).names (fun _ => true) 2).N.Nodup := sc_l_other.nd
  exact fn_ok (io := [true, false]) (n := 1) (m := m_l_other) F sc_l_other
    (sb_cons (ss_set 2 (sd_lst (ns_cons (ns_cons (ns_cons (ns_cons (ns_cons (ns_cons (ns_cons (ns_cons (ns_cons (ns_cons (ns_cons (ns_cons (ns_cons (ns_cons (ns_cons (ns_cons ns_nil)))))))))))))))) (sar_cons (sd_non) (sar_cons (sd_bl) (sar_cons (sd_int) (sar_cons (sd_str) (sar_cons (sd_str) (sar_cons (sd_str) (sar_cons (sd_tup ns_nil sar_nil) (sar_cons (sd_tup (ns_cons ns_nil) (sar_cons (sd_str) sar_nil)) (sar_cons (sd_lst ns_nil sar_nil) (sar_cons (sd_lst (ns_cons ns_nil) (sar_cons (sd_str) sar_nil)) (sar_cons (sd_dct0) (sar_cons (sd_dctS (spr_cons sd_str (sd_int) spr_nil)) (sar_cons (sd_bin (sods_cons (sod_val (sd_int)) (sods_cons (sod_val (sd_int)) sods_nil)) ok_pow) (sar_cons (sd_tup (ns_cons ns_nil) (sar_cons (sd_var 1) sar_nil)) (sar_cons (sd_lst (ns_cons ns_nil) (sar_cons (sd_var 1) sar_nil)) (sar_cons (sd_callTy (ns_cons ns_nil) (sods_cons (sod_val (sd_var 1)) sods_nil) ok_strY (by kernel_rfl) h_str (by rfl)) sar_nil))))))))))))))))))
    (sb_one (ss_ret (sd_call D_l_one_of B_l_one_of (ns_cons (ns_cons ns_nil)) (sars_cons (sar_plc 0) (sars_cons (sar_val (sd_var 2)) sars_nil))))))
theorem b_l_other {K : PySem.W.Frag} {a : Addr} {f : FuncData} (F : Fun K "_law_other" "_law_other" s_l_other a f) : Binds K f P_l_other [] := F.binds fun _ _ _ _ _ _ us hl => match us, hl with | [_, _], _ => rfl
/-! ### l_place -/
abbrev s_l_place : Stmt := topS 19
abbrev N_l_place : List Str := ["_law_source_here", "_law_marks_here", "_law_way", "_law_at", "_law_some"]
abbrev P_l_place : List Str := ["_law_source_here"]
theorem sc_l_place : FnScope N_l_place P_l_place (defScope s_l_place) := ⟨rfl, rfl, rfl, by decide +kernel, rfl, by decide +kernel, by decide +kernel⟩
def m_l_place : M Fl := sSeq (sPar 1 false 2 false (mCall c_l_marks [aplc' 0]) (mCall c_l_choice [aplc' 0, aval (mC (.int 8))]))
  (sSeq (sSet 3 (mCall c_l_choice [aplc' 0, aval (mOp (w2 fAdd) [mval (mOp (w1 fLen) [mval (mVar 1)]), mval (mC (.int 1))])]))
  (sSeq (sSet 4 (mLst [mVar 1, mVar 1, mRev (mVar 1), mOp (w2 fAdd) [mval (mVar 1), mval (mOp fSlH [mval (mVar 1), mval (mC (.int 1))])], mOp (w2 fAdd) [mval (mOp (w2 fAdd) [mval (mOp fSlH [mval (mVar 1), mval (mVar 3)]), mval (mOp fSlB [mval (mVar 1), mval (mVar 3), mval (mOp (w2 fAdd) [mval (mVar 3), mval (mC (.int 1))])])]), mval (mOp fSlL [mval (mVar 1), mval (mVar 3)])]]))
  (sSeq (sSet 4 (mOp (w2 fAdd) [mval (mVar 4), mval (mLst [mOp (w2 fAdd) [mval (mOp (w2 fAdd) [mval (mOp fSlH [mval (mVar 1), mval (mVar 3)]), mval (mLst [mCall c_l_word [aplc' 0]])]), mval (mOp fSlL [mval (mVar 1), mval (mVar 3)])], mOp (w2 fAdd) [mval (mOp (w2 fAdd) [mval (mOp fSlH [mval (mVar 1), mval (mVar 3)]), mval (mLst [mCall c_l_other [aplc' 0, aval (mVar 1)]])]), mval (mOp fSlL [mval (mVar 1), mval (mVar 3)])]])]))
  (sSeq (sIf (mTst (w2b fEq) [mval (mVar 2), mval (mC (.int 7))]) (sRet (mVar 1)) (sPass))
  (sRet (mOp (w1 fTuple) [mval (mOp (w2 fIx) [mval (mVar 4), mval (mVar 2)])]))))))
def c_l_place : List O → Option (O × List O) := callM [true] 4 (m_l_place)
set_option maxHeartbeats 40000000 in
theorem ok_l_place {cfg : Cfg} {a : Addr} {f : FuncData} (F : Fun cfg.K "_law_place" "_law_place" s_l_place a f) {a_l_choice : Addr} {f_l_choice : FuncData} (F_l_choice : Fun cfg.K "_law_choice" "_law_choice" s_l_choice a_l_choice f_l_choice) (D_l_choice : FnD cfg 1 "_law_choice" a_l_choice f_l_choice P_l_choice 2 c_l_choice) (B_l_choice : Binds cfg.K f_l_choice P_l_choice []) {a_l_marks : Addr} {f_l_marks : FuncData} (F_l_marks : Fun cfg.K "_law_marks" "_law_marks" s_l_marks a_l_marks f_l_marks) (D_l_marks : FnD cfg 3 "_law_marks" a_l_marks f_l_marks P_l_marks 1 c_l_marks) (B_l_marks : Binds cfg.K f_l_marks P_l_marks []) {a_l_other : Addr} {f_l_other : FuncData} (F_l_other : Fun cfg.K "_law_other" "_law_other" s_l_other a_l_other f_l_other) (D_l_other : FnD cfg 3 "_law_other" a_l_other f_l_other P_l_other 2 c_l_other) (B_l_other : Binds cfg.K f_l_other P_l_other []) {a_l_word : Addr} {f_l_word : FuncData} (F_l_word : Fun cfg.K "_law_word" "_law_word" s_l_word a_l_word f_l_word) (D_l_word : FnD cfg 3 "_law_word" a_l_word f_l_word P_l_word 1 c_l_word) (B_l_word : Binds cfg.K f_l_word P_l_word []) (h_len : cfg.mg "len" = none) (h_tuple : cfg.mg "tuple" = none) : FnG cfg 4 a f P_l_place (spOf cfg.K 1 c_l_place) := by
  have nd : (Gm.mk cfg N_l_place (defScope s_l_place).names (fun _ => true) 3).N.Nodup := sc_l_place.nd
  exact fn_ok (io := [true]) (n := 4) (m := m_l_place) F sc_l_place
    (sb_cons (ss_par 1 false 2 false (ns_cons (ns_cons ns_nil)) (sar_cons (sd_call D_l_marks B_l_marks (ns_cons ns_nil) (sars_cons (sar_plc 0) sars_nil)) (sar_cons (sd_call D_l_choice B_l_choice (ns_cons (ns_cons ns_nil)) (sars_cons (sar_plc 0) (sars_cons (sar_val (sd_int)) sars_nil))) sar_nil)))
    (sb_cons (ss_set 3 (sd_call D_l_choice B_l_choice (ns_cons (ns_cons ns_nil)) (sars_cons (sar_plc 0) (sars_cons (sar_val (sd_bin (sods_cons (sod_val (sd_callB (ns_cons ns_nil) (sods_cons (sod_val (sd_var 1)) sods_nil) ok_len (by kernel_rfl) h_len (by rfl))) (sods_cons (sod_val (sd_int)) sods_nil)) ok_add)) sars_nil))))
    (sb_cons (ss_set 4 (sd_lst (ns_cons (ns_cons (ns_cons (ns_cons (ns_cons ns_nil))))) (sar_cons (sd_var 1) (sar_cons (sd_var 1) (sar_cons (sd_rev (sd_var 1)) (sar_cons (sd_bin (sods_cons (sod_val (sd_var 1)) (sods_cons (sod_val (sd_slH (sods_cons (sod_val (sd_var 1)) (sods_cons (sod_val (sd_int)) sods_nil)))) sods_nil)) ok_add) (sar_cons (sd_bin (sods_cons (sod_val (sd_bin (sods_cons (sod_val (sd_slH (sods_cons (sod_val (sd_var 1)) (sods_cons (sod_val (sd_var 3)) sods_nil)))) (sods_cons (sod_val (sd_slB (sod_val (sd_var 1)) (sd_var 3) (sd_bin (sods_cons (sod_val (sd_var 3)) (sods_cons (sod_val (sd_int)) sods_nil)) ok_add))) sods_nil)) ok_add)) (sods_cons (sod_val (sd_slL (sods_cons (sod_val (sd_var 1)) (sods_cons (sod_val (sd_var 3)) sods_nil)))) sods_nil)) ok_add) sar_nil)))))))
    (sb_cons (ss_set 4 (sd_bin (sods_cons (sod_val (sd_var 4)) (sods_cons (sod_val (sd_lst (ns_cons (ns_cons ns_nil)) (sar_cons (sd_bin (sods_cons (sod_val (sd_bin (sods_cons (sod_val (sd_slH (sods_cons (sod_val (sd_var 1)) (sods_cons (sod_val (sd_var 3)) sods_nil)))) (sods_cons (sod_val (sd_lst (ns_cons ns_nil) (sar_cons (sd_call D_l_word B_l_word (ns_cons ns_nil) (sars_cons (sar_plc 0) sars_nil)) sar_nil))) sods_nil)) ok_add)) (sods_cons (sod_val (sd_slL (sods_cons (sod_val (sd_var 1)) (sods_cons (sod_val (sd_var 3)) sods_nil)))) sods_nil)) ok_add) (sar_cons (sd_bin (sods_cons (sod_val (sd_bin (sods_cons (sod_val (sd_slH (sods_cons (sod_val (sd_var 1)) (sods_cons (sod_val (sd_var 3)) sods_nil)))) (sods_cons (sod_val (sd_lst (ns_cons ns_nil) (sar_cons (sd_call D_l_other B_l_other (ns_cons (ns_cons ns_nil)) (sars_cons (sar_plc 0) (sars_cons (sar_val (sd_var 1)) sars_nil))) sar_nil))) sods_nil)) ok_add)) (sods_cons (sod_val (sd_slL (sods_cons (sod_val (sd_var 1)) (sods_cons (sod_val (sd_var 3)) sods_nil)))) sods_nil)) ok_add) sar_nil)))) sods_nil)) ok_add))
    (sb_cons (ss_if (sdT_cmp (sods_cons (sod_val (sd_var 2)) (sods_cons (sod_val (sd_int)) sods_nil)) ok_eq) (sb_one (ss_ret (sd_var 1))) (sb_nil))
    (sb_one (ss_ret (sd_callTy (ns_cons ns_nil) (sods_cons (sod_val (sd_ix (sods_cons (sod_val (sd_var 4)) (sods_cons (sod_val (sd_var 2)) sods_nil)) ok_ix)) sods_nil) ok_tuple (by kernel_rfl) h_tuple (by rfl)))))))))
theorem b_l_place {K : PySem.W.Frag} {a : Addr} {f : FuncData} (F : Fun K "_law_place" "_law_place" s_l_place a f) : Binds K f P_l_place [] := F.binds fun _ _ _ _ _ _ us hl => match us, hl with | [_], _ => rfl
/-! ### l_right -/
abbrev s_l_right : Stmt := topS 20
abbrev N_l_right : List Str := ["_law_it", "_law_kept", "_law_due", "_law_told"]
abbrev P_l_right : List Str := ["_law_it"]
theorem sc_l_right : FnScope N_l_right P_l_right (defScope s_l_right) := ⟨rfl, rfl, rfl, by decide +kernel, rfl, by decide +kernel, by decide +kernel⟩
def m_l_right : M Fl := sSeq (sSet 1 (mOp (w1 fReprX) [mval (mVar 0)]))
  (sSeq (sSetO 2 (mLst [mCall c_l_is_word [aval (mVar 0), aval (mC (.str ("abcdefghijklmnopqrstuvwxyz" : Str)))], mCall c_l_is_word [aval (mVar 0), aval (mC (.str ("ABCDEFGHIJKLMNOPQRSTUVWXYZ" : Str)))]]))
  (sSeq (sExpr (mApp 2 (mCall c_l_is_place [aval (mVar 0)])))
  (sSeq (sSet 3 (mLst [mLst [mCall c_is_name [aval (mVar 0)], mCall c_is_mark [aval (mVar 0)], mCall c_is_place [aval (mVar 0)]], mLst [mCall (permF [0] [0] c_is_name) [aval (mVar 0)], mCall (permF [0] [0] c_is_mark) [aval (mVar 0)], mCall (permF [0] [0] c_is_place) [aval (mVar 0)]]]))
  (sRet (mAnd (mOp (bO (w2b fEq)) [mval (mOp (w1 fReprX) [mval (mVar 3)]), mval (mOp (w1 fReprX) [mval (mLst [mFz 2, mFz 2])])]) (mOp (bO (w2b fEq)) [mval (mOp (w1 fReprX) [mval (mVar 0)]), mval (mVar 1)]))))))
def c_l_right : List O → Option (O × List O) := callM [false] 3 (m_l_right)
set_option maxHeartbeats 40000000 in
theorem ok_l_right {cfg : Cfg} {a : Addr} {f : FuncData} (F : Fun cfg.K "_law_right" "_law_right" s_l_right a f) {a_l_is_place : Addr} {f_l_is_place : FuncData} (F_l_is_place : Fun cfg.K "_law_is_place" "_law_is_place" s_l_is_place a_l_is_place f_l_is_place) (D_l_is_place : FnD cfg 2 "_law_is_place" a_l_is_place f_l_is_place P_l_is_place 1 c_l_is_place) (B_l_is_place : Binds cfg.K f_l_is_place P_l_is_place []) {a_l_is_word : Addr} {f_l_is_word : FuncData} (F_l_is_word : Fun cfg.K "_law_is_word" "_law_is_word" s_l_is_word a_l_is_word f_l_is_word) (D_l_is_word : FnD cfg 1 "_law_is_word" a_l_is_word f_l_is_word P_l_is_word 2 c_l_is_word) (B_l_is_word : Binds cfg.K f_l_is_word P_l_is_word []) {a_is_mark : Addr} {f_is_mark : FuncData} (F_is_mark : Fun cfg.K "is_mark" "is_mark" s_is_mark a_is_mark f_is_mark) (D_is_mark : FnD cfg 2 "is_mark" a_is_mark f_is_mark P_is_mark 1 c_is_mark) (B_is_mark : Binds cfg.K f_is_mark P_is_mark []) {a_is_name : Addr} {f_is_name : FuncData} (F_is_name : Fun cfg.K "is_name" "is_name" s_is_name a_is_name f_is_name) (D_is_name : FnD cfg 2 "is_name" a_is_name f_is_name P_is_name 1 c_is_name) (B_is_name : Binds cfg.K f_is_name P_is_name []) {a_is_place : Addr} {f_is_place : FuncData} (F_is_place : Fun cfg.K "is_place" "is_place" s_is_place a_is_place f_is_place) (D_is_place : FnD cfg 3 "is_place" a_is_place f_is_place P_is_place 1 c_is_place) (B_is_place : Binds cfg.K f_is_place P_is_place []) (h_repr : cfg.mg "repr" = none) : FnG cfg 4 a f P_l_right (spOf cfg.K 1 c_l_right) := by
  have nd : (Gm.mk cfg N_l_right (defScope s_l_right).names (fun _ => true) 3).N.Nodup := sc_l_right.nd
  exact fn_ok (io := [false]) (n := 3) (m := m_l_right) F sc_l_right
    (sb_cons (ss_set 1 (sd_callB (ns_cons ns_nil) (sods_cons (sod_val (sd_var 0)) sods_nil) ok_reprX (by kernel_rfl) h_repr (by rfl)))
    (sb_cons (ss_setO 2 (sd_lst (ns_cons (ns_cons ns_nil)) (sar_cons (sd_call D_l_is_word B_l_is_word (ns_cons (ns_cons ns_nil)) (sars_cons (sar_val (sd_var 0)) (sars_cons (sar_val (sd_str)) sars_nil))) (sar_cons (sd_call D_l_is_word B_l_is_word (ns_cons (ns_cons ns_nil)) (sars_cons (sar_val (sd_var 0)) (sars_cons (sar_val (sd_str)) sars_nil))) sar_nil))))
    (sb_cons (ss_expr (sd_app 2 (sd_call D_l_is_place B_l_is_place (ns_cons ns_nil) (sars_cons (sar_val (sd_var 0)) sars_nil))))
    (sb_cons (ss_set 3 (sd_lst (ns_cons (ns_cons ns_nil)) (sar_cons (sd_lst (ns_cons (ns_cons (ns_cons ns_nil))) (sar_cons (sd_call D_is_name B_is_name (ns_cons ns_nil) (sars_cons (sar_val (sd_var 0)) sars_nil)) (sar_cons (sd_call D_is_mark B_is_mark (ns_cons ns_nil) (sars_cons (sar_val (sd_var 0)) sars_nil)) (sar_cons (sd_call D_is_place B_is_place (ns_cons ns_nil) (sars_cons (sar_val (sd_var 0)) sars_nil)) sar_nil)))) (sar_cons (sd_lst (ns_cons (ns_cons (ns_cons ns_nil))) (sar_cons (sd_callK0 D_is_name (ord_of (π := [0]) (ρ := [0]) (by decide +kernel)) (kb_is_name_0_thing F_is_name) (sars_cons (sar_val (sd_var 0)) sars_nil)) (sar_cons (sd_callK0 D_is_mark (ord_of (π := [0]) (ρ := [0]) (by decide +kernel)) (kb_is_mark_0_thing F_is_mark) (sars_cons (sar_val (sd_var 0)) sars_nil)) (sar_cons (sd_callK0 D_is_place (ord_of (π := [0]) (ρ := [0]) (by decide +kernel)) (kb_is_place_0_thing F_is_place) (sars_cons (sar_val (sd_var 0)) sars_nil)) sar_nil)))) sar_nil))))
    (sb_one (ss_ret (sd_and (sd_cmp (sods_cons (sod_val (sd_callB (ns_cons ns_nil) (sods_cons (sod_val (sd_var 3)) sods_nil) ok_reprX (by kernel_rfl) h_repr (by rfl))) (sods_cons (sod_val (sd_callB (ns_cons ns_nil) (sods_cons (sod_val (sd_lst (ns_cons (ns_cons ns_nil)) (sar_cons (sd_fz 2) (sar_cons (sd_fz 2) sar_nil)))) sods_nil) ok_reprX (by kernel_rfl) h_repr (by rfl))) sods_nil)) ok_eq) (sd_one (sd_cmp (sods_cons (sod_val (sd_callB (ns_cons ns_nil) (sods_cons (sod_val (sd_var 0)) sods_nil) ok_reprX (by kernel_rfl) h_repr (by rfl))) (sods_cons (sod_val (sd_var 1)) sods_nil)) ok_eq)))))))))
theorem b_l_right {K : PySem.W.Frag} {a : Addr} {f : FuncData} (F : Fun K "_law_right" "_law_right" s_l_right a f) : Binds K f P_l_right [] := F.binds fun _ _ _ _ _ _ us hl => match us, hl with | [_], _ => rfl
/-! ### law -/
abbrev s_law : Stmt := topS 21
abbrev N_law : List Str := ["_law_script", "_law_source_here", "_law_some", "_law_turn", "_law_it"]
abbrev P_law : List Str := ["_law_script"]
theorem sc_law : FnScope N_law P_law (defScope s_law) := ⟨rfl, rfl, rfl, by decide +kernel, rfl, by decide +kernel, by decide +kernel⟩
def m_law : M Fl := sSeq (sSetO 1 (mCall c_l_source [aval (mVar 0)]))
  (sSeq (sSetO 2 (mLst [mC .non, mC (.bl true), mC (.bl false), mC (.int 0), mC (.int 1), mOp (w2 fPow) [mval (mC (.int 10)), mval (mC (.int 39))], mC (.str ("" : Str)), mC (.str ("a" : Str)), mC (.str ("z" : Str)), mC (.str ("A" : Str)), mC (.str ("Z" : Str)), mC (.str ("aa" : Str)), mC (.str ("aA" : Str)), mC (.str ("abcdefgh" : Str)), mC (.str ("abcdefghi" : Str)), mC (.str ("ABCDEFGH" : Str))]))
  (sSeq (sSetO 2 (mOp (w2 fAdd) [mPl 2, mval (mLst [mC (.str ("ABCDEFGHI" : Str)), mC (.str ("a b" : Str)), mC (.str (" a" : Str)), mC (.str ("a
" : Str)), mC (.str ("?" : Str)), mTup [], mTup [mC (.str ("A" : Str))], mTup [mC (.str ("a" : Str))], mTup [mC (.str ("A" : Str)), mC (.str ("A" : Str))], mTup [mC (.str ("AB" : Str)), mC (.str ("A" : Str))], mTup [mC (.str ("A" : Str)), mC (.str ("AA" : Str))], mLst [], mDct0])]))
  (sSeq (sSetO 2 (mOp (w2 fAdd) [mPl 2, mval (mLst [mTup [mC (.str ("A" : Str)), mC .non], mTup [mC (.str ("A" : Str)), mC (.int 1)], mTup [mTup [mC (.str ("A" : Str))]], mLst [mC (.str ("A" : Str))], mDctS [("A" : Str)] [mC (.str ("B" : Str))], mTup [mC (.str ("A" : Str)), mC (.str ("B" : Str)), mC (.str ("C" : Str)), mC (.str ("D" : Str)), mC (.str ("E" : Str)), mC (.str ("F" : Str)), mC (.str ("G" : Str))], mTup [mC (.str ("" : Str))], mOp (w2 fMulX) [mval (mC (.str ("A" : Str))), mval (mC (.int 4000))]])]))
  (sSeq (sFor (iR1 (mC (.int 20))) (gNm 3) (sSeq (sSetO 2 (mOp (w2 fAdd) [mPl 2, mval (mLst [mCall c_l_word [aplc' 1], mCall c_l_place [aplc' 1]])]))
  (sExpr (mApp 2 (mTup [mCall c_l_word [aplc' 1], mCall c_l_word [aplc' 1]])))))
  (sRet (mOp (bO (w2b fEqZ)) [mval (mLc [4] (iSX (mFz 2)) (gNm 4) (tNot (mTst truth1 [mval (mCall c_l_right [aval (mVar 4)])])) (mVar 4)), mval (mLst [])]))))))
def c_law : List O → Option (O × List O) := callM [false] 4 (m_law)
set_option maxHeartbeats 40000000 in
theorem ok_law {cfg : Cfg} {a : Addr} {f : FuncData} (F : Fun cfg.K "law" "law" s_law a f) {a_l_place : Addr} {f_l_place : FuncData} (F_l_place : Fun cfg.K "_law_place" "_law_place" s_l_place a_l_place f_l_place) (D_l_place : FnD cfg 4 "_law_place" a_l_place f_l_place P_l_place 1 c_l_place) (B_l_place : Binds cfg.K f_l_place P_l_place []) {a_l_right : Addr} {f_l_right : FuncData} (F_l_right : Fun cfg.K "_law_right" "_law_right" s_l_right a_l_right f_l_right) (D_l_right : FnD cfg 4 "_law_right" a_l_right f_l_right P_l_right 1 c_l_right) (B_l_right : Binds cfg.K f_l_right P_l_right []) {a_l_source : Addr} {f_l_source : FuncData} (F_l_source : Fun cfg.K "_law_source" "_law_source" s_l_source a_l_source f_l_source) (D_l_source : FnD cfg 1 "_law_source" a_l_source f_l_source P_l_source 1 c_l_source) (B_l_source : Binds cfg.K f_l_source P_l_source []) {a_l_word : Addr} {f_l_word : FuncData} (F_l_word : Fun cfg.K "_law_word" "_law_word" s_l_word a_l_word f_l_word) (D_l_word : FnD cfg 3 "_law_word" a_l_word f_l_word P_l_word 1 c_l_word) (B_l_word : Binds cfg.K f_l_word P_l_word []) (h_range : cfg.mg "range" = none) : FnG cfg 5 a f P_law (spOf cfg.K 1 c_law) := by
  have nd : (Gm.mk cfg N_law (defScope s_law).names (fun _ => true) 4).N.Nodup := sc_law.nd
  exact fn_ok (io := [false]) (n := 4) (m := m_law) F sc_law
    (sb_cons (ss_setO 1 (sd_call D_l_source B_l_source (ns_cons ns_nil) (sars_cons (sar_val (sd_var 0)) sars_nil)))
    (sb_cons (ss_setO 2 (sd_lst (ns_cons (ns_cons (ns_cons (ns_cons (ns_cons (ns_cons (ns_cons (ns_cons (ns_cons (ns_cons (ns_cons (ns_cons (ns_cons (ns_cons (ns_cons (ns_cons ns_nil)))))))))))))))) (sar_cons (sd_non) (sar_cons (sd_bl) (sar_cons (sd_bl) (sar_cons (sd_int) (sar_cons (sd_int) (sar_cons (sd_bin (sods_cons (sod_val (sd_int)) (sods_cons (sod_val (sd_int)) sods_nil)) ok_pow) (sar_cons (sd_str) (sar_cons (sd_str) (sar_cons (sd_str) (sar_cons (sd_str) (sar_cons (sd_str) (sar_cons (sd_str) (sar_cons (sd_str) (sar_cons (sd_str) (sar_cons (sd_str) (sar_cons (sd_str) sar_nil))))))))))))))))))
    (sb_cons (ss_setO 2 (sd_bin (sods_cons (sod_pl 2) (sods_cons (sod_val (sd_lst (ns_cons (ns_cons (ns_cons (ns_cons (ns_cons (ns_cons (ns_cons (ns_cons (ns_cons (ns_cons (ns_cons (ns_cons (ns_cons ns_nil))))))))))))) (sar_cons (sd_str) (sar_cons (sd_str) (sar_cons (sd_str) (sar_cons (sd_str) (sar_cons (sd_str) (sar_cons (sd_tup ns_nil sar_nil) (sar_cons (sd_tup (ns_cons ns_nil) (sar_cons (sd_str) sar_nil)) (sar_cons (sd_tup (ns_cons ns_nil) (sar_cons (sd_str) sar_nil)) (sar_cons (sd_tup (ns_cons (ns_cons ns_nil)) (sar_cons (sd_str) (sar_cons (sd_str) sar_nil))) (sar_cons (sd_tup (ns_cons (ns_cons ns_nil)) (sar_cons (sd_str) (sar_cons (sd_str) sar_nil))) (sar_cons (sd_tup (ns_cons (ns_cons ns_nil)) (sar_cons (sd_str) (sar_cons (sd_str) sar_nil))) (sar_cons (sd_lst ns_nil sar_nil) (sar_cons (sd_dct0) sar_nil))))))))))))))) sods_nil)) ok_add))
    (sb_cons (ss_setO 2 (sd_bin (sods_cons (sod_pl 2) (sods_cons (sod_val (sd_lst (ns_cons (ns_cons (ns_cons (ns_cons (ns_cons (ns_cons (ns_cons (ns_cons ns_nil)))))))) (sar_cons (sd_tup (ns_cons (ns_cons ns_nil)) (sar_cons (sd_str) (sar_cons (sd_non) sar_nil))) (sar_cons (sd_tup (ns_cons (ns_cons ns_nil)) (sar_cons (sd_str) (sar_cons (sd_int) sar_nil))) (sar_cons (sd_tup (ns_cons ns_nil) (sar_cons (sd_tup (ns_cons ns_nil) (sar_cons (sd_str) sar_nil)) sar_nil)) (sar_cons (sd_lst (ns_cons ns_nil) (sar_cons (sd_str) sar_nil)) (sar_cons (sd_dctS (spr_cons sd_str (sd_str) spr_nil)) (sar_cons (sd_tup (ns_cons (ns_cons (ns_cons (ns_cons (ns_cons (ns_cons (ns_cons ns_nil))))))) (sar_cons (sd_str) (sar_cons (sd_str) (sar_cons (sd_str) (sar_cons (sd_str) (sar_cons (sd_str) (sar_cons (sd_str) (sar_cons (sd_str) sar_nil)))))))) (sar_cons (sd_tup (ns_cons ns_nil) (sar_cons (sd_str) sar_nil)) (sar_cons (sd_bin (sods_cons (sod_val (sd_str)) (sods_cons (sod_val (sd_int)) sods_nil)) ok_mulX) sar_nil)))))))))) sods_nil)) ok_add))
    (sb_cons (ss_for (si_r1 (sd_int) (by kernel_rfl) h_range) (sg_nm 3) (sb_cons (ss_setO 2 (sd_bin (sods_cons (sod_pl 2) (sods_cons (sod_val (sd_lst (ns_cons (ns_cons ns_nil)) (sar_cons (sd_call D_l_word B_l_word (ns_cons ns_nil) (sars_cons (sar_plc 1) sars_nil)) (sar_cons (sd_call D_l_place B_l_place (ns_cons ns_nil) (sars_cons (sar_plc 1) sars_nil)) sar_nil)))) sods_nil)) ok_add))
    (sb_one (ss_expr (sd_app 2 (sd_tup (ns_cons (ns_cons ns_nil)) (sar_cons (sd_call D_l_word B_l_word (ns_cons ns_nil) (sars_cons (sar_plc 1) sars_nil)) (sar_cons (sd_call D_l_word B_l_word (ns_cons ns_nil) (sars_cons (sar_plc 1) sars_nil)) sar_nil))))))))
    (sb_one (ss_ret (sd_cmp (sods_cons (sod_val (sd_lc (own := [(("_law_it" : Str), 4)]) (si_seqX (sd_fz 2)) rfl (sg_nm 4) (sts_one (sdT_not (sdT_tr (sod_val (sd_call D_l_right B_l_right (ns_cons ns_nil) (sars_cons (sar_val (sd_var 4)) sars_nil)))))) (sd_var 4) (by decide) (by kernel_rfl) nd)) (sods_cons (sod_val (sd_lst ns_nil sar_nil)) sods_nil)) ok_eqZ))))))))
theorem b_law {K : PySem.W.Frag} {a : Addr} {f : FuncData} (F : Fun K "law" "law" s_law a f) : Binds K f P_law [] := F.binds fun _ _ _ _ _ _ us hl => match us, hl with | [_], _ => rfl
end K02

set_option Elab.async false
set_option linter.all false
set_option maxRecDepth 100000
set_option maxHeartbeats 4000000
namespace K02
open PySem PySem.Spec PyProof.Rows L2 BM
local macro_rules
  | `(tactic| simp_arith [$xs,*]) => `(tactic| simp -implicitDefEqProofs only [↓ob_some, ↓oo_some, ↓vr_some, ↓sl_some, ↓al_some, ↓fk_nx, ↓fk_bk, ↓fk_ct, ↓fk_rt, ↓lk_nx, ↓lk_bk, ↓lk_ct, ↓lk_rt, ↓rk_nx, ↓rk_rt, ↓ifk_t, ↓ifk_f, ↓rg1_int, ↓e_pure, ↓e_bind, ↓e_var, ↓e_fz, ↓e_mv, ↓e_C, ↓e_val, ↓e_pl, ↓e_mods0, ↓e_mods, ↓e_get0, ↓e_get, ↓e_getV, ↓e_getP, ↓e_flatD, ↓e_flatL, ↓leafs_leaf, ↓e_leafs0, ↓e_leafsD, ↓e_ops, ↓e_op, ↓e_tst, ↓e_bO, ↓e_w1, ↓e_w2, ↓e_w1b, ↓e_w2b, ↓e_truth1, ↓e_truthB, ↓e_truthI, ↓e_truthN, ↓e_truthL, ↓e_truthT, ↓e_args0, ↓e_args, ↓e_tup, ↓e_lst, ↓e_if, ↓e_sif, ↓e_or, ↓e_and, ↓e_not, ↓e_mnot, ↓e_yes, ↓e_mor, ↓e_mand, ↓e_mset, ↓e_set, ↓e_setO, ↓e_expr, ↓e_ret, ↓e_retN, ↓e_pass, ↓e_break, ↓e_cont, ↓e_seq, ↓e_gNm, ↓e_gTs0, ↓e_gTs, ↓e_gTp, ↓e_gTpST, ↓e_gTpSL, ↓e_tgt, ↓e_sfor, ↓e_for0, ↓e_for, ↓e_wipe0, ↓e_wipe, ↓e_iS, ↓e_listT, ↓e_listL, ↓e_iR1, ↓e_rev, ↓e_aval, ↓e_aplc, ↓e_mars0, ↓e_mars, ↓e_take0, ↓e_takeV, ↓e_takeP, ↓e_give0, ↓e_giveV, ↓e_giveP, ↓e_call, ↓e_callM, ↓e_in0, ↓e_inT, ↓e_inF, ↓e_outs0, ↓e_outsT, ↓e_outsF, ↓e_permF, ↓e_permL0, ↓e_permL, ↓pcons_some, ↓e_app, ↓e_msetB0, ↓e_msetB1, ↓e_par, ↓e_par3, ↓e_fld, ↓e_obj, ↓e_make, ↓mkK_ok, ↓e_enA, ↓e_rv, ↓e_dctS, ↓e_lrg, ↓e_isi, ↓e_upper, ↓e_revX, ↓revX_t, ↓e_iSX, ↓e_dct0, ↓e_chn, ↓chK_eq, ↓e_zipS, ↓e_seqL, ↓e_seqT, ↓e_seqS, ↓e_fListXL, ↓e_fListXT, ↓e_join2, ↓joinK_str, ↓e_join, e_fEqZT, e_fEqZL, e_fNeZT, e_fNeZL, e_toD, e_toL, toDs_leaf, e_toDs0, e_toDs, e_fAddI, e_fSubI,  e_fLtI, e_fLeI, e_fGtI, e_fGeI, e_fEqI, e_fEqS, e_fEqB, ↓e_fNe, ↓e_fNotIn, ↓e_fIsN, e_fLenL, e_fLenT, e_fListL, e_fListT, e_fTupL, e_fTupT, e_fMin, e_fMax, e_fNegI,
      List.getElem?_cons_succ, List.getElem?_cons_zero, List.set_cons_succ, List.set_cons_zero, List.length_cons, List.length_nil, List.replicate_succ, List.replicate_zero, List.cons_append, List.nil_append, Nat.reduceAdd, Nat.reduceLT, Nat.reduceEqDiff, if_true, if_false, and_self, ite_true, ite_false, Bool.false_eq_true, Bool.not_true, Bool.not_false, Bool.or_true, Bool.true_or, decide_true, decide_false, eq_self, $xs,*])

/-! ### the deck -/
abbrev dkeys : List D := [.str ("cells" : Str), .str ("mixed" : Str), .str ("made" : Str)]
abbrev dk (cs : List Int) (mx n : Int) : O := .dct dkeys [.lst (leaf (cs.map D.int)), .d (.int mx), .d (.int n)]
def Deck (n : Nat) (o : O) : Prop := ∃ (cs : List Int) (mx : Int), cs.length ≤ 63 ∧ o = dk cs mx n
theorem ix_cells : idxKey (.str ("cells" : Str)) dkeys = some 0 := by decide +kernel
theorem ix_total : idxKey (.str ("mixed" : Str)) dkeys = some 1 := by decide +kernel
theorem ix_draws : idxKey (.str ("made" : Str)) dkeys = some 2 := by decide +kernel
theorem once_draws : onceK (.str ("made" : Str)) dkeys = true := by decide +kernel
section
variable {cs : List Int} {mx n : Int} {r r' : BM.Env}
theorem d_draws : mGetD 0 ("made" : Str) (some (dk cs mx n) :: r) = some (.d (.int n), some (dk cs mx n) :: r) := by
  unfold mGetD; simp only [List.getElem?_cons_zero, ix_draws, List.getElem?_cons_succ]
theorem d_total : mGetD 0 ("mixed" : Str) (some (dk cs mx n) :: r) = some (.d (.int mx), some (dk cs mx n) :: r) := by
  unfold mGetD; simp only [List.getElem?_cons_zero, ix_total, List.getElem?_cons_succ]
theorem d_set {q : Int} {me : M O} (hm : me (some (dk cs mx n) :: r) = some (.d (.int q), some (dk cs mx n) :: r)) : sSetD 0 ("made" : Str) me (some (dk cs mx n) :: r) = some (.nx, some (dk cs mx q) :: r) := by
  unfold sSetD
  simp only [hm, List.getElem?_cons_zero, ix_draws, once_draws]
  rw [if_pos ⟨trivial, by show 3 < sizeLine; decide⟩]
  rfl
theorem kid_cells {x : Option O} (h : x = some (dk cs mx n)) : kidD ("cells" : Str) (some x) = some (0, dkeys, [.lst (leaf (cs.map D.int)), .d (.int mx), .d (.int n)], leaf (cs.map D.int)) := by
  subst h
  unfold kidD
  simp only [ix_cells, List.getElem?_cons_zero]
theorem all_ints (cs : List Int) : (cs.map D.int).all isInt = true := by
  rw [List.all_map, List.all_eq_true]; intro x _; rfl
theorem d_ne : tKidNeD 0 ("cells" : Str) (some (dk cs mx n) :: r) = some (!cs.isEmpty, some (dk cs mx n) :: r) := by
  unfold tKidNeD
  rw [List.getElem?_cons_zero, kid_cells rfl]
  simp only [leafs_leaf, all_ints, if_true]
  cases cs <;> rfl
theorem d_pop {c : Int} : mKidPopD 0 ("cells" : Str) (some (dk (cs ++ [c]) mx n) :: r) = some (.d (.int c), some (dk cs mx n) :: r) := by
  unfold mKidPopD
  rw [List.getElem?_cons_zero, kid_cells rfl]
  simp [leaf]
theorem d_app {q : Int} {me : M O} (hm : me (none :: r) = some (.d (.int q), none :: r')) (hl : cs.length ≤ 63) : mKidAppD 0 ("cells" : Str) me (some (dk cs mx n) :: r) = some (.d .non, some (dk (cs ++ [q]) mx n) :: r') := by
  unfold mKidAppD
  rw [List.getElem?_cons_zero, kid_cells rfl]
  simp only [List.set_cons_zero, hm]
  rw [if_pos ⟨by rw [List.length_map, List.length_map, sizeLine_eq]; omega, by simp⟩]
  simp [leaf]
end
def lastV (c t : Int) : Int := (((c % 2147483629 + 66587 * t * t + 43) * 40692 % 2147483647) * ((c % 2147483629 + 66587 * t * t + 43) * 40692 % 2147483647) + 69621 * t + 13) % 2147483563 * 39373 % 2147483587 / 64
theorem fPow18 : fPow (.int 10) (.int 18) = some (.d (.int 1000000000000000000)) := rfl
theorem r_draw {n : Nat} {deck : O} {many : Nat} (h : Deck n deck) (hm : 0 < many ∧ many < 1073741824) (hn : n < 2 ^ 39) : ∃ (v : Nat) (deck' : O), c_l_choice [deck, .d (.int many)] = some (.d (.int v), [deck', .d (.int many)]) ∧ Deck (n + 1) deck' ∧ v < many := by
  obtain ⟨cs, mx, hl, rfl⟩ := h
  have hp : (0 : Int) < many := by omega
  have key : ∀ (z : Int) (dk' : O), c_l_choice [dk cs mx n, .d (.int many)] = some (.d (.int (z % many)), [dk', .d (.int many)]) → Deck (n + 1) dk' → ∃ (v : Nat) (deck' : O), c_l_choice [dk cs mx n, .d (.int many)] = some (.d (.int v), [deck', .d (.int many)]) ∧ Deck (n + 1) deck' ∧ v < many := fun z dk' e d => by
    have h1 := Int.emod_nonneg z (by omega : (many : Int) ≠ 0)
    have h2 := Int.emod_lt_of_pos z hp
    refine ⟨(z % many).toNat, dk', ?_, d, by omega⟩
    rw [e, Int.toNat_of_nonneg h1]
  have t1 : sm64 ((n : Int) + 1) = true := sm_of (by omega) (by omega)
  have c1 : sm64 66587 = true := by decide
  have c2 : sm64 40692 = true := by decide
  have c3 : sm64 69621 = true := by decide
  have c4 : sm64 39373 = true := by decide
  have m1 : ∀ a : Int, sm64 (a % 2147483647) = true := fun a => sm_mod (by decide) (by decide)
  have q0 : (0 : Int) < 2147483563 := by decide
  have q1 : (0 : Int) < 2147483587 := by decide
  have q2 : (0 : Int) < 2147483629 := by decide
  have q3 : (0 : Int) < 2147483647 := by decide
  have p5 : (0 : Int) < 64 ∧ (64 : Int) < 1073741824 := by decide
  have p6 : (0 : Int) < many ∧ (many : Int) < 1073741824 := by omega
  rcases List.eq_nil_or_concat cs with e | ⟨cs', c, e⟩
  · subst e
    refine key (lastV mx (n + 1)) (dk [] mx ((n + 1 : Nat) : Int)) ?_ ⟨[], mx, hl, rfl⟩
    have s1 : sSetD 0 ("made" : Str) (mVar 2) [some (dk [] mx n), some (.d (.int many)), some (.d (.int (n + 1))), some (.d (.int mx)), none] = some (.nx, [some (dk [] mx (n + 1)), some (.d (.int many)), some (.d (.int (n + 1))), some (.d (.int mx)), none]) := d_set rfl
    simp_arith [c_l_choice, m_l_choice, d_draws, d_total, s1, d_ne, List.isEmpty_nil, fMod_p q0, fMod_p q1, fMod_p q2, fMod_p q3, fMod_p hp, fDiv_p p5, fMul_l c1, fMul_r t1, fMul_r c2, fMul_l c3, fMul_r c4, fMul_r (m1 _), lastV, Int.natCast_add, Int.natCast_one]
  · subst e
    rw [List.concat_eq_append] at *
    have hl' : cs'.length ≤ 63 := by simp at hl; omega
    have ne : (!(cs' ++ [c]).isEmpty) = true := by simp
    have s1 : sSetD 0 ("made" : Str) (mVar 2) [some (dk (cs' ++ [c]) mx n), some (.d (.int many)), some (.d (.int (n + 1))), some (.d (.int mx)), none] = some (.nx, [some (dk (cs' ++ [c]) mx (n + 1)), some (.d (.int many)), some (.d (.int (n + 1))), some (.d (.int mx)), none]) := d_set rfl
    by_cases hc : (1000000000000000000 : Int) ≤ c
    · refine key c (dk (cs' ++ [c / many]) mx ((n + 1 : Nat) : Int)) ?_ ⟨cs' ++ [c / many], mx, by simpa using hl, rfl⟩
      have s2 : mKidAppD 0 ("cells" : Str) (mOp (w2 fDiv) [mval (mVar 4), mval (mVar 1)]) [some (dk cs' mx (n + 1)), some (.d (.int many)), some (.d (.int (n + 1))), some (.d (.int mx)), some (.d (.int c))] = some (.d .non, [some (dk (cs' ++ [c / many]) mx (n + 1)), some (.d (.int many)), some (.d (.int (n + 1))), some (.d (.int mx)), some (.d (.int c))]) :=
        d_app (by simp_arith [fDiv_p p6]) hl'
      simp_arith [c_l_choice, m_l_choice, d_draws, d_total, s1, d_ne, ne, d_pop, fPow18, decide_eq_true hc, s2, fMod_p hp, Int.natCast_add, Int.natCast_one]
    · refine key (lastV (mx + c) (n + 1)) (dk cs' mx ((n + 1 : Nat) : Int)) ?_ ⟨cs', mx, hl', rfl⟩
      simp_arith [c_l_choice, m_l_choice, d_draws, d_total, s1, d_ne, ne, d_pop, fPow18, decide_eq_false hc, fMod_p q0, fMod_p q1, fMod_p q2, fMod_p q3, fMod_p hp, fDiv_p p5, fMul_l c1, fMul_r t1, fMul_r c2, fMul_l c3, fMul_r c4, fMul_r (m1 _), lastV, Int.natCast_add, Int.natCast_one]
theorem r_pick {n : Nat} {deck : O} (h : Deck n deck) (hn : n < 2 ^ 39) {it : D} {l : List D} (hl : listOfD it = some l) (h0 : l ≠ []) (hz : l.length < 1073741824) : ∃ d deck', c_l_one_of [deck, .d it] = some (.d d, [deck', .d it]) ∧ Deck (n + 1) deck' ∧ d ∈ l := by
  have lp : 0 < l.length := List.length_pos_iff.mpr h0
  obtain ⟨v, deck', e1, e2, e3⟩ := r_draw h (many := l.length) ⟨lp, hz⟩ hn
  have g1 : l[v]? = some l[v] := List.getElem?_eq_getElem e3
  have ln : fLen it = some (.d (.int l.length)) := by
    cases it with
    | lst l' => cases hl; rfl
    | tup l' => cases hl; rfl
    | _ => cases hl
  have ix : fIx it (.int v) = some (.d l[v]) := by
    cases it with
    | lst l' => cases hl; exact fIx_l g1
    | tup l' => cases hl; exact fIx_t g1
    | _ => cases hl
  refine ⟨l[v], deck', ?_, e2, List.getElem_mem e3⟩
  simp_arith [c_l_one_of, m_l_one_of, ln, e1, ix]
theorem pick_val (deck o : O) : c_l_one_of [deck, o] = c_l_one_of [deck, .d o.toD] := rfl
theorem r_pickO {n : Nat} {deck : O} (h : Deck n deck) (hn : n < 2 ^ 39) {o : O} {l : List D} (hl : listOfD o.toD = some l) (h0 : l ≠ []) (hz : l.length < 1073741824) : ∃ d deck', c_l_one_of [deck, o] = some (.d d, [deck', .d o.toD]) ∧ Deck (n + 1) deck' ∧ d ∈ l := by
  rw [pick_val]
  exact r_pick h hn hl h0 hz
/-- one sign of a text -/
theorem r_pickS {n : Nat} {deck : O} (h : Deck n deck) (hn : n < 2 ^ 39) {x : Str} (h0 : 0 < x.cps.toList.length) (hz : x.length < 1000000) : ∃ (c : Nat) (deck' : O), c_l_one_of [deck, .d (.str x)] = some (.d (.str ⟨#[c]⟩), [deck', .d (.str x)]) ∧ Deck (n + 1) deck' ∧ c ∈ x.cps.toList := by
  have e0 : x.length = x.cps.toList.length := by show x.cps.size = _; simp
  obtain ⟨v, deck', e1, e2, e3⟩ := r_draw h (many := x.length) ⟨by omega, by omega⟩ hn
  have g1 : x.cps.toList[v]? = some x.cps.toList[v] := List.getElem?_eq_getElem (by omega)
  have ln : fLen (.str x) = some (.d (.int x.length)) := by
    show (if x.length ≤ sizeLine then some (O.d (.int x.length)) else none) = _
    rw [if_pos (by rw [sizeLine_eq]; omega)]
  have ix := fIx_s (x := x) (i := v) (by rw [sizeLine_eq]; omega) g1
  refine ⟨x.cps.toList[v], deck', ?_, e2, List.getElem_mem _⟩
  simp_arith [c_l_one_of, m_l_one_of, ln, e1, ix]
/-! ### the deck of a script -/
theorem deck_loop {A B : Option O} : ∀ (l : List Int) (t : Int) (z : Option O), ∃ (t' : Int) (z' : Option O),
    forL (gNm 3) (sSet 2 (mOp (w2 fMod) [mval (mOp (w2 fAdd) [mval (mOp (w2 fAdd) [mval (mOp (w2 fMul) [mval (mVar 2), mval (mC (.int 48271))]), mval (mOp (w2 fMod) [mval (mVar 3), mval (mC (.int 2147483629))])]), mval (mC (.int 37))]), mval (mC (.int 2147483587))])) (l.map D.int) [A, B, some (.d (.int t)), z] = some (.nx, [A, B, some (.d (.int t')), z'])
  | [], t, z => ⟨t, z, rfl⟩
  | c :: l, t, z => by
    obtain ⟨t', z', e⟩ := deck_loop (A := A) (B := B) l ((t * 48271 + c % 2147483629 + 37) % 2147483587) (some (.d (.int c)))
    refine ⟨t', z', ?_⟩
    have c1 : sm64 48271 = true := by decide
    have p1 : (0 : Int) < 2147483629 := by decide
    have p2 : (0 : Int) < 2147483587 := by decide
    simp_arith [List.map_cons, fMul_r c1, fMod_p p1, fMod_p p2, e]
theorem r_deck {ns : List Int} (h : ns.length ≤ 63) : ∃ deck, c_l_source [.d (.lst (ns.map D.int))] = some (deck, [.d (.lst (ns.map D.int))]) ∧ Deck 0 deck := by
  have cut : fSlH [D.lst (ns.map D.int), .int 63] = some (.lst (leaf (ns.map D.int))) := by
    show some (O.lst (leaf (BM.cutD (ns.map D.int) none (some 63)))) = _
    rw [cut63 (by rw [List.length_map]; exact h)]
  have li : fListX (.lst (ns.map D.int)) = some (.lst (leaf (ns.map D.int))) := rfl
  obtain ⟨t', z', e⟩ := deck_loop (A := some (.d (.lst (ns.map D.int)))) (B := some (.d (.lst (ns.map D.int)))) ns 10111 none
  refine ⟨dk ns.reverse t' ((0 : Nat) : Int), ?_, ⟨ns.reverse, t', by simpa using h, rfl⟩⟩
  simp_arith [c_l_source, m_l_source, cut, li, e, ← List.map_reverse, List.map_cons, List.map_nil]
  rfl
end K02

set_option Elab.async false
set_option linter.all false
set_option maxRecDepth 100000
set_option maxHeartbeats 4000000
namespace K02
open PySem PySem.Spec PyProof.Rows L2 BM
local macro_rules
  | `(tactic| simp_arith [$xs,*]) => `(tactic| simp -implicitDefEqProofs only [↓ob_some, ↓oo_some, ↓vr_some, ↓sl_some, ↓al_some, ↓fk_nx, ↓fk_bk, ↓fk_ct, ↓fk_rt, ↓lk_nx, ↓lk_bk, ↓lk_ct, ↓lk_rt, ↓rk_nx, ↓rk_rt, ↓ifk_t, ↓ifk_f, ↓rg1_int, ↓e_pure, ↓e_bind, ↓e_var, ↓e_fz, ↓e_mv, ↓e_C, ↓e_val, ↓e_pl, ↓e_mods0, ↓e_mods, ↓e_get0, ↓e_get, ↓e_getV, ↓e_getP, ↓e_flatD, ↓e_flatL, ↓leafs_leaf, ↓e_leafs0, ↓e_leafsD, ↓e_ops, ↓e_op, ↓e_tst, ↓e_bO, ↓e_w1, ↓e_w2, ↓e_w1b, ↓e_w2b, ↓e_truth1, ↓e_truthB, ↓e_truthI, ↓e_truthN, ↓e_truthL, ↓e_truthT, ↓e_args0, ↓e_args, ↓e_tup, ↓e_lst, ↓e_if, ↓e_sif, ↓e_or, ↓e_and, ↓e_not, ↓e_mnot, ↓e_yes, ↓e_mor, ↓e_mand, ↓e_mset, ↓e_set, ↓e_setO, ↓e_expr, ↓e_ret, ↓e_retN, ↓e_pass, ↓e_break, ↓e_cont, ↓e_seq, ↓e_gNm, ↓e_gTs0, ↓e_gTs, ↓e_gTp, ↓e_gTpST, ↓e_gTpSL, ↓e_tgt, ↓e_sfor, ↓e_for0, ↓e_for, ↓e_wipe0, ↓e_wipe, ↓e_iS, ↓e_listT, ↓e_listL, ↓e_iR1, ↓e_rev, ↓e_aval, ↓e_aplc, ↓e_mars0, ↓e_mars, ↓e_take0, ↓e_takeV, ↓e_takeP, ↓e_give0, ↓e_giveV, ↓e_giveP, ↓e_call, ↓e_callM, ↓e_in0, ↓e_inT, ↓e_inF, ↓e_outs0, ↓e_outsT, ↓e_outsF, ↓e_permF, ↓e_permL0, ↓e_permL, ↓pcons_some, ↓e_app, ↓e_msetB0, ↓e_msetB1, ↓e_par, ↓e_par3, ↓e_fld, ↓e_obj, ↓e_make, ↓mkK_ok, ↓e_enA, ↓e_rv, ↓e_dctS, ↓e_lrg, ↓e_isi, ↓e_upper, ↓e_revX, ↓revX_t, ↓e_iSX, ↓e_chn, ↓chK_eq, ↓e_zipS, ↓e_seqL, ↓e_seqT, ↓e_seqS, ↓e_fListXL, ↓e_fListXT, ↓e_join2, ↓joinK_str, ↓e_join, e_fEqZT, e_fEqZL, e_fNeZT, e_fNeZL, e_toD, e_toL, toDs_leaf, e_toDs0, e_toDs, e_fAddI, e_fSubI,  e_fLtI, e_fLeI, e_fGtI, e_fGeI, e_fEqI, e_fEqS, e_fEqB, ↓e_fNe, ↓e_fNotIn, ↓e_fIsN, e_fLenL, e_fLenT, e_fListL, e_fListT, e_fTupL, e_fTupT, e_fMin, e_fMax, e_fNegI,
      List.getElem?_cons_succ, List.getElem?_cons_zero, List.set_cons_succ, List.set_cons_zero, List.length_cons, List.length_nil, List.replicate_succ, List.replicate_zero, List.cons_append, List.nil_append, Nat.reduceAdd, Nat.reduceLT, Nat.reduceEqDiff, if_true, if_false, and_self, ite_true, ite_false, Bool.false_eq_true, Bool.not_true, Bool.not_false, Bool.or_true, Bool.true_or, decide_true, decide_false, eq_self, $xs,*])

/-! ### words -/
abbrev LC : Str := ("abcdefghijklmnopqrstuvwxyz" : Str)
abbrev UC : Str := ("ABCDEFGHIJKLMNOPQRSTUVWXYZ" : Str)
def inL (L : Str) (c : Nat) : Bool := !(Builtin.Str.occurrences L ⟨#[c]⟩ 0 L.length 1).isEmpty
theorem fIn_c (L : Str) (c : Nat) : fIn (.str ⟨#[c]⟩) (.str L) = some (inL L c) := rfl
def wordB (L x : Str) : Bool := decide (1 ≤ x.length) && decide (x.length ≤ 8) && x.cps.toList.all (inL L)
def wordV (L : Str) : D → Bool
  | .str x => wordB L x
  | _ => false
def isS : D → Bool
  | .str _ => true
  | _ => false
def isT : D → Bool
  | .tup _ => true
  | _ => false
/-- a value -/
def Okv (d : D) : Prop := (∀ C ns xs, d ≠ .obj C ns xs) ∧ ∀ x, d = .str x → x.length ≤ 1000000
theorem ty_S {d : D} (h : Okv d) : fIsTy "str" d = some (.d (.bl (isS d))) := by
  rw [isi_str d h.1]; cases d <;> rfl
theorem ty_T {d : D} (h : Okv d) : fIsTy "tuple" d = some (.d (.bl (isT d))) := by
  rw [isi_tup d h.1]; cases d <;> rfl
theorem isS_ex {d : D} (h : isS d = true) : ∃ x, d = .str x := by
  cases d <;> first | exact ⟨_, rfl⟩ | cases h
theorem isT_ex {d : D} (h : isT d = true) : ∃ l, d = .tup l := by
  cases d <;> first | exact ⟨_, rfl⟩ | cases h
theorem fLen_s {x : Str} (h : x.length ≤ 1000000) : fLen (.str x) = some (.d (.int x.length)) := by
  show (if x.length ≤ sizeLine then some (O.d (.int x.length)) else none) = _
  rw [if_pos (by rw [sizeLine_eq]; omega)]
theorem len_cps (x : Str) : x.cps.toList.length = x.length := by show _ = x.cps.size; simp
theorem r_is_word {L : Str} {d : D} (h : Okv d) : c_is_word [.d d, .d (.str L)] = some (.d (.bl (wordV L d)), [.d d, .d (.str L)]) := by
  have e := ty_S h
  cases hs : isS d with
  | false =>
    rw [hs] at e
    have w : wordV L d = false := by cases d <;> first | rfl | cases hs
    simp_arith [c_is_word, m_is_word, e, w]
  | true =>
    obtain ⟨x, rfl⟩ := isS_ex hs
    rw [hs] at e
    have hz := h.2 x rfl
    have ln := fLen_s hz
    by_cases h1 : 1 ≤ x.length
    · have i1 : decide ((1 : Int) ≤ (x.length : Nat)) = true := decide_eq_true (by omega)
      by_cases h8 : x.length ≤ 8
      · have i8 : decide (((x.length : Nat) : Int) ≤ 8) = true := decide_eq_true (by omega)
        have lc : mLc [2] (iSX (mVar 0)) (gNm 2) tYes (mOp (bO (w2b fIn)) [mval (mVar 2), mval (mVar 1)]) [some (.d (.str x)), some (.d (.str L)), none] = some (.lst (leaf (x.cps.toList.map fun c => D.bl (inL L c))), [some (.d (.str x)), some (.d (.str L)), none]) :=
          x_lcM (emb := fun c => D.str ⟨#[c]⟩) x.cps.toList (by simp_arith []; rfl) rfl (by rw [len_cps, sizeLine_eq]; omega) fun c _ =>
            ⟨[some (.d (.str x)), some (.d (.str L)), some (.d (.str ⟨#[c]⟩))], rfl, by simp_arith [fIn_c], rfl⟩
        have w : wordV L (.str x) = x.cps.toList.all (inL L) := by
          show wordB L x = _
          unfold wordB
          rw [decide_eq_true h1, decide_eq_true h8]; rfl
        simp_arith [c_is_word, m_is_word, e, ln, i1, i8, lc, fAll_map, w]
      · have i8 : decide (((x.length : Nat) : Int) ≤ 8) = false := decide_eq_false (by omega)
        have w : wordV L (.str x) = false := by
          show wordB L x = _
          unfold wordB
          rw [decide_eq_false h8, Bool.and_false]; rfl
        simp_arith [c_is_word, m_is_word, e, ln, i1, i8, w]
    · have i1 : decide ((1 : Int) ≤ (x.length : Nat)) = false := decide_eq_false (by omega)
      have w : wordV L (.str x) = false := by
        show wordB L x = _
        unfold wordB
        rw [decide_eq_false h1]; rfl
      simp_arith [c_is_word, m_is_word, e, ln, i1, w]
theorem all_filter {α : Type} (p : α → Bool) (l : List α) : decide (((l.filter p).length : Int) = (l.length : Nat)) = l.all p := by
    have h := List.length_filter_eq_length_iff (l := l) (p := p)
    cases q : l.all p with
    | true =>
      have := h.mpr fun a ha => List.all_eq_true.mp q a ha
      exact decide_eq_true (by omega)
    | false =>
      refine decide_eq_false fun z => ?_
      have z2 : (l.filter p).length = l.length := by omega
      have := List.all_eq_true.mpr fun a ha => h.mp z2 a ha
      rw [this] at q; cases q
theorem r_l_is_word {L : Str} {d : D} (h : Okv d) : c_l_is_word [.d d, .d (.str L)] = some (.d (.bl (wordV L d)), [.d d, .d (.str L)]) := by
  have e := ty_S h
  cases hs : isS d with
  | false =>
    rw [hs] at e
    have w : wordV L d = false := by cases d <;> first | rfl | cases hs
    simp_arith [c_l_is_word, m_l_is_word, e, w]
  | true =>
    obtain ⟨x, rfl⟩ := isS_ex hs
    rw [hs] at e
    have hz := h.2 x rfl
    have ln := fLen_s hz
    by_cases h1 : 1 ≤ x.length
    · have i1 : decide (((x.length : Nat) : Int) = 0) = false := decide_eq_false (by omega)
      by_cases h8 : x.length ≤ 8
      · have i8 : decide ((8 : Int) < (x.length : Nat)) = false := decide_eq_false (by omega)
        have lc : mLc [2] (iSX (mVar 0)) (gNm 2) (mTst (w2b fIn) [mval (mVar 2), mval (mVar 1)]) (mVar 2) [some (.d (.str x)), some (.d (.str L)), none] = some (.lst (leaf ((x.cps.toList.filter (inL L)).map fun c => D.str ⟨#[c]⟩)), [some (.d (.str x)), some (.d (.str L)), none]) :=
          x_lcF (emb := fun c => D.str ⟨#[c]⟩) x.cps.toList (by simp_arith []; rfl) rfl (by rw [len_cps, sizeLine_eq]; omega) fun c _ =>
            ⟨[some (.d (.str x)), some (.d (.str L)), some (.d (.str ⟨#[c]⟩))], rfl, by simp_arith [fIn_c], fun _ => rfl, rfl⟩
        have w : wordV L (.str x) = x.cps.toList.all (inL L) := by
          show wordB L x = _
          unfold wordB
          rw [decide_eq_true h1, decide_eq_true h8]; rfl
        have af := all_filter (inL L) x.cps.toList
        rw [len_cps] at af
        simp_arith [c_l_is_word, m_l_is_word, e, ln, i1, i8, lc, List.length_map, af, w]
      · have i8 : decide ((8 : Int) < (x.length : Nat)) = true := decide_eq_true (by omega)
        have w : wordV L (.str x) = false := by
          show wordB L x = _
          unfold wordB
          rw [decide_eq_false h8, Bool.and_false]; rfl
        simp_arith [c_l_is_word, m_l_is_word, e, ln, i1, i8, w]
    · have i1 : decide (((x.length : Nat) : Int) = 0) = true := decide_eq_true (by omega)
      have w : wordV L (.str x) = false := by
        show wordB L x = _
        unfold wordB
        rw [decide_eq_false h1]; rfl
      simp_arith [c_l_is_word, m_l_is_word, e, ln, i1, w]
theorem r_is_name {d : D} (h : Okv d) : c_is_name [.d d] = some (.d (.bl (wordV LC d)), [.d d]) := by
  simp_arith [c_is_name, m_is_name, r_is_word h]
theorem r_is_mark {d : D} (h : Okv d) : c_is_mark [.d d] = some (.d (.bl (wordV UC d)), [.d d]) := by
  simp_arith [c_is_mark, m_is_mark, r_is_word h]
end K02

set_option Elab.async false
set_option linter.all false
set_option maxRecDepth 100000
set_option maxHeartbeats 4000000
namespace K02
open PySem PySem.Spec PyProof.Rows L2 BM
local macro_rules
  | `(tactic| simp_arith [$xs,*]) => `(tactic| simp -implicitDefEqProofs only [↓ob_some, ↓oo_some, ↓vr_some, ↓sl_some, ↓al_some, ↓fk_nx, ↓fk_bk, ↓fk_ct, ↓fk_rt, ↓lk_nx, ↓lk_bk, ↓lk_ct, ↓lk_rt, ↓rk_nx, ↓rk_rt, ↓ifk_t, ↓ifk_f, ↓rg1_int, ↓e_pure, ↓e_bind, ↓e_var, ↓e_fz, ↓e_mv, ↓e_C, ↓e_val, ↓e_pl, ↓e_mods0, ↓e_mods, ↓e_get0, ↓e_get, ↓e_getV, ↓e_getP, ↓e_flatD, ↓e_flatL, ↓leafs_leaf, ↓e_leafs0, ↓e_leafsD, ↓e_ops, ↓e_op, ↓e_tst, ↓e_bO, ↓e_w1, ↓e_w2, ↓e_w1b, ↓e_w2b, ↓e_truth1, ↓e_truthB, ↓e_truthI, ↓e_truthN, ↓e_truthL, ↓e_truthT, ↓e_args0, ↓e_args, ↓e_tup, ↓e_lst, ↓e_if, ↓e_sif, ↓e_or, ↓e_and, ↓e_not, ↓e_mnot, ↓e_yes, ↓e_mor, ↓e_mand, ↓e_mset, ↓e_set, ↓e_setO, ↓e_expr, ↓e_ret, ↓e_retN, ↓e_pass, ↓e_break, ↓e_cont, ↓e_seq, ↓e_gNm, ↓e_gTs0, ↓e_gTs, ↓e_gTp, ↓e_gTpST, ↓e_gTpSL, ↓e_tgt, ↓e_sfor, ↓e_for0, ↓e_for, ↓e_wipe0, ↓e_wipe, ↓e_iS, ↓e_listT, ↓e_listL, ↓e_iR1, ↓e_rev, ↓e_aval, ↓e_aplc, ↓e_mars0, ↓e_mars, ↓e_take0, ↓e_takeV, ↓e_takeP, ↓e_give0, ↓e_giveV, ↓e_giveP, ↓e_call, ↓e_callM, ↓e_in0, ↓e_inT, ↓e_inF, ↓e_outs0, ↓e_outsT, ↓e_outsF, ↓e_permF, ↓e_permL0, ↓e_permL, ↓pcons_some, ↓e_app, ↓e_msetB0, ↓e_msetB1, ↓e_par, ↓e_par3, ↓e_fld, ↓e_obj, ↓e_make, ↓mkK_ok, ↓e_enA, ↓e_rv, ↓e_dctS, ↓e_lrg, ↓e_isi, ↓e_upper, ↓e_revX, ↓revX_t, ↓e_iSX, ↓e_chn, ↓chK_eq, ↓e_zipS, ↓e_seqL, ↓e_seqT, ↓e_seqS, ↓e_fListXL, ↓e_fListXT, ↓e_join2, ↓joinK_str, ↓e_join, e_fEqZT, e_fEqZL, e_fNeZT, e_fNeZL, e_toD, e_toL, toDs_leaf, e_toDs0, e_toDs, e_fAddI, e_fSubI,  e_fLtI, e_fLeI, e_fGtI, e_fGeI, e_fEqI, e_fEqS, e_fEqB, ↓e_fNe, ↓e_fNotIn, ↓e_fIsN, e_fLenL, e_fLenT, e_fListL, e_fListT, e_fTupL, e_fTupT, e_fMin, e_fMax, e_fNegI,
      List.getElem?_cons_succ, List.getElem?_cons_zero, List.set_cons_succ, List.set_cons_zero, List.length_cons, List.length_nil, List.replicate_succ, List.replicate_zero, List.cons_append, List.nil_append, Nat.reduceAdd, Nat.reduceLT, Nat.reduceEqDiff, if_true, if_false, and_self, ite_true, ite_false, Bool.false_eq_true, Bool.not_true, Bool.not_false, Bool.or_true, Bool.true_or, decide_true, decide_false, eq_self, $xs,*])

/-! ### rising -/
theorem getD_at {α : Type} {xs : List α} {i : Nat} {e : α} (h : i < xs.length) : xs.getD i e = xs[i] := by
  rw [List.getD, List.getElem?_eq_getElem h]; rfl
def risB (xs : List Str) : Bool := (xs.dropLast.zip (xs.drop 1)).all fun p => sLt p.1 p.2
theorem fLt_s (a b : Str) : fLt (.str a) (.str b) = some (sLt a b) := rfl
theorem fGe_s (a b : Str) : fGe (.str a) (.str b) = some (!sLt a b) := rfl
theorem neg1 : (-(1 : Int)) = -1 := rfl
theorem ris_core {d : D} {xs : List Str} {o1 o2 : O} (hz : xs.length ≤ 5000000) (h1 : fSlH [d, .int (-1)] = some o1) (h2 : fSlL [d, .int 1] = some o2) (g1 : listOfD o1.toD = some (xs.dropLast.map D.str)) (g2 : listOfD o2.toD = some ((xs.drop 1).map D.str)) :
    c_are_rising [.d d] = some (.d (.bl (risB xs)), [.d d]) := by
  have hl : (xs.dropLast.map D.str).length = ((xs.drop 1).map D.str).length := by simp
  have lc : mLc [1, 2] (iZipS (mOp fSlH [mval (mVar 0), mval (mOp (w1 fNeg) [mval (mC (.int 1))])]) (mOp fSlL [mval (mVar 0), mval (mC (.int 1))])) (gTpS [gNm 1, gNm 2]) tYes (mOp (bO (w2b fLt)) [mval (mVar 1), mval (mVar 2)]) [some (.d d), none, none] =
      some (.lst (leaf ((xs.dropLast.zip (xs.drop 1)).map fun p => D.bl (sLt p.1 p.2))), [some (.d d), none, none]) :=
    x_lcM (emb := fun p : Str × Str => D.tup [.str p.1, .str p.2]) (h := fun p => D.bl (sLt p.1 p.2)) (xs.dropLast.zip (xs.drop 1)) (by simp_arith [neg1, h1, h2, zipK_ok g1 g2 hl, zipD_map]) rfl (by rw [List.length_zip, List.length_dropLast, List.length_drop, sizeLine_eq]; omega) fun p _ =>
      ⟨[some (.d d), some (.d (.str p.1)), some (.d (.str p.2))], rfl, by simp_arith [fLt_s], rfl⟩
  simp_arith [c_are_rising, m_are_rising, lc, fAll_map, risB]
theorem r_risingT {xs : List Str} (hz : xs.length ≤ 5000000) : c_are_rising [.d (.tup (xs.map D.str))] = some (.d (.bl (risB xs)), [.d (.tup (xs.map D.str))]) :=
  ris_core hz (o1 := .d (.tup (xs.dropLast.map D.str))) (o2 := .d (.tup ((xs.drop 1).map D.str))) (by
    show some (O.d (.tup (BM.cutD (xs.map D.str) none (some (-1))))) = _
    rw [cut_last, List.map_dropLast]) (by
    show some (O.d (.tup (BM.cutD (xs.map D.str) (some ((1 : Nat) : Int)) none))) = _
    rw [cut_from, List.map_drop]) rfl rfl
theorem r_risingL {xs : List Str} (hz : xs.length ≤ 5000000) : c_are_rising [.d (.lst (xs.map D.str))] = some (.d (.bl (risB xs)), [.d (.lst (xs.map D.str))]) :=
  ris_core hz (o1 := .lst (leaf (xs.dropLast.map D.str))) (o2 := .lst (leaf ((xs.drop 1).map D.str))) (by
    show some (O.lst (leaf (BM.cutD (xs.map D.str) none (some (-1))))) = _
    rw [cut_last, List.map_dropLast]) (by
    show some (O.lst (leaf (BM.cutD (xs.map D.str) (some ((1 : Nat) : Int)) none))) = _
    rw [cut_from, List.map_drop]) (by show listOfD (.lst (O.toDs (leaf _))) = _; rw [toDs_leaf]; rfl) (by show listOfD (.lst (O.toDs (leaf _))) = _; rw [toDs_leaf]; rfl)
/-! ### places -/
def placeV : D → Bool
  | .tup l => !l.isEmpty && (l.all (wordV UC) && risB (l.map strD))
  | _ => false
/-- a value, its parts as well -/
def Okp (d : D) : Prop := Okv d ∧ ∀ l, d = .tup l → (∀ x ∈ l, Okv x) ∧ l.length ≤ 5000000
theorem words_tx {l : List D} {L : Str} (h : l.all (wordV L) = true) : l = (l.map strD).map D.str := by
  refine txs_of (List.all_eq_true.mpr fun d hd => ?_)
  have := List.all_eq_true.mp h d hd
  cases d <;> first | rfl | cases this
theorem r_is_place {d : D} (h : Okp d) : c_is_place [.d d] = some (.d (.bl (placeV d)), [.d d]) := by
  have e := ty_T h.1
  cases hs : isT d with
  | false =>
    rw [hs] at e
    have w : placeV d = false := by cases d <;> first | rfl | cases hs
    simp_arith [c_is_place, m_is_place, e, w]
  | true =>
    obtain ⟨l, rfl⟩ := isT_ex hs
    rw [hs] at e
    obtain ⟨h1, h2⟩ := h.2 l rfl
    have lc : mLc [1] (iSX (mVar 0)) (gNm 1) tYes (mCall c_is_mark [aval (mVar 1)]) [some (.d (.tup l)), none] = some (.lst (leaf (l.map fun x => D.bl (wordV UC x))), [some (.d (.tup l)), none]) :=
      x_lcM (emb := fun x : D => x) l (by rw [List.map_id' l]; simp_arith []) rfl (by rw [sizeLine_eq]; omega) fun x hx =>
        ⟨[some (.d (.tup l)), some (.d x)], rfl, by simp_arith [r_is_mark (h1 x hx)], rfl⟩
    cases hl : l.isEmpty with
    | true =>
      have w : placeV (.tup l) = false := by
        show (!l.isEmpty && _) = false
        rw [hl]; rfl
      simp_arith [c_is_place, m_is_place, e, hl, w]
    | false =>
      cases ha : l.all (wordV UC) with
      | false =>
        have w : placeV (.tup l) = false := by
          show (!l.isEmpty && (l.all (wordV UC) && _)) = false
          rw [ha, hl]; rfl
        simp_arith [c_is_place, m_is_place, e, hl, lc, fAll_map, ha, w]
      | true =>
        have w : placeV (.tup l) = risB (l.map strD) := by
          show (!l.isEmpty && (l.all (wordV UC) && _)) = _
          rw [ha, hl]; rfl
        have r := r_risingT (xs := l.map strD) (by rw [List.length_map]; exact h2)
        rw [← words_tx ha] at r
        simp_arith [c_is_place, m_is_place, e, hl, lc, fAll_map, ha, r, w]
theorem emp_filter {α β : Type} (p : α → Bool) (h : α → β) (l : List α) : ((l.filter fun x => !p x).map h).isEmpty = l.all p := by
  cases q : l.all p with
  | true =>
    rw [List.filter_eq_nil_iff.mpr fun a ha => by rw [List.all_eq_true.mp q a ha]; decide]; rfl
  | false =>
    cases z : l.filter fun x => !p x with
    | nil =>
      have := List.filter_eq_nil_iff.mp z
      have : l.all p = true := List.all_eq_true.mpr fun a ha => by
        have := this a ha
        cases e : p a with
        | true => rfl
        | false => rw [e] at this; exact absurd rfl this
      rw [this] at q; cases q
    | cons => rfl
theorem ris_ix (xs : List Str) : risB xs = (List.range (xs.length - 1)).all fun k => sLt (xs.getD k Str.empty) (xs.getD (k + 1) Str.empty) := by
  have e : xs.dropLast.zip (xs.drop 1) = (List.range (xs.length - 1)).map fun k => (xs.getD k Str.empty, xs.getD (k + 1) Str.empty) := by
    refine List.ext_getElem (by simp) fun i h1 h2 => ?_
    have hi : i < xs.length - 1 := by simpa using h2
    rw [List.getElem_zip, List.getElem_map, List.getElem_range, List.getElem_dropLast, List.getElem_drop]
    rw [getD_at (by omega), getD_at (by omega)]
    have : 1 + i = i + 1 := by omega
    simp only [this]
  unfold risB
  rw [e, List.all_map]; rfl
theorem fIx_tn {l : List D} {i : Nat} {d : D} (h : l[i]? = some d) : fIx (.tup l) (.int ((i : Nat) : Int)) = some (.d d) := fIx_t h
theorem r_l_is_place {d : D} (h : Okp d) : c_l_is_place [.d d] = some (.d (.bl (placeV d)), [.d d]) := by
  have e := ty_T h.1
  cases hs : isT d with
  | false =>
    rw [hs] at e
    have w : placeV d = false := by cases d <;> first | rfl | cases hs
    simp_arith [c_l_is_place, m_l_is_place, e, w]
  | true =>
    obtain ⟨l, rfl⟩ := isT_ex hs
    rw [hs] at e
    obtain ⟨h1, h2⟩ := h.2 l rfl
    have lc : mLc [1] (iSX (mVar 0)) (gNm 1) (tNot (mTst truth1 [mval (mCall c_l_is_word [aval (mVar 1), aval (mC (.str UC))])])) (mVar 1) [some (.d (.tup l)), none, none] = some (.lst (leaf ((l.filter fun x => !wordV UC x).map fun x => x)), [some (.d (.tup l)), none, none]) :=
      x_lcF (emb := fun x : D => x) (h := fun x => x) l (by rw [List.map_id' l]; simp_arith []) rfl (by rw [sizeLine_eq]; omega) fun x hx =>
        ⟨[some (.d (.tup l)), some (.d x), none], rfl, by simp_arith [r_l_is_word (h1 x hx)], fun _ => rfl, rfl⟩
    cases hl : l with
    | nil =>
      subst hl
      have w : placeV (.tup []) = false := rfl
      have i0 : decide (((0 : Nat) : Int) = 0) = true := rfl
      simp_arith [c_l_is_place, m_l_is_place, e, i0, w]
    | cons a t =>
      rw [← hl]
      have hn : 1 ≤ l.length := by rw [hl]; simp
      have i0 : decide (((l.length : Nat) : Int) = 0) = false := decide_eq_false (by omega)
      have hne : l.isEmpty = false := by rw [hl]; rfl
      have ef := emp_filter (wordV UC) (fun x => x) l
      cases ha : l.all (wordV UC) with
      | false =>
        rw [ha] at ef
        have w : placeV (.tup l) = false := by
          show (!l.isEmpty && (l.all (wordV UC) && _)) = false
          rw [ha, hne]; rfl
        simp_arith [c_l_is_place, m_l_is_place, e, i0, lc, ef, w]
      | true =>
        rw [ha] at ef
        have w : placeV (.tup l) = risB (l.map strD) := by
          show (!l.isEmpty && (l.all (wordV UC) && _)) = _
          rw [ha, hne]; rfl
        have wt := words_tx ha
        obtain ⟨xs, hxs⟩ : ∃ xs, xs = l.map strD := ⟨_, rfl⟩
        rw [← hxs] at w wt
        have hlen : l.length = xs.length := by rw [hxs, List.length_map]
        have ix : ∀ k, k < xs.length → fIx (.tup l) (.int ((k : Nat) : Int)) = some (.d (.str (xs.getD k Str.empty))) := fun k hk => by
          refine fIx_t ?_
          rw [wt, List.getElem?_map, List.getElem?_eq_getElem hk, getD_at hk]; rfl
        have m1 : ((l.length : Nat) : Int) - 1 = ((xs.length - 1 : Nat) : Int) := by omega
        have ri : -(2 : Int) ^ 62 ≤ ((xs.length - 1 : Nat) : Int) ∧ ((xs.length - 1 : Nat) : Int) < 2 ^ 62 := by omega
        have a1 : ∀ k : Nat, ((k : Nat) : Int) + 1 = ((k + 1 : Nat) : Int) := fun k => by omega
        have lc2 : mLc [2] (iR1 (mOp (w2 fSub) [mval (mOp (w1 fLen) [mval (mVar 0)]), mval (mC (.int 1))])) (gNm 2) (mTst (w2b fGe) [mval (mOp (w2 fIx) [mval (mVar 0), mval (mVar 2)]), mval (mOp (w2 fIx) [mval (mVar 0), mval (mOp (w2 fAdd) [mval (mVar 2), mval (mC (.int 1))])])]) (mVar 2) [some (.d (.tup l)), none, none] =
            some (.lst (leaf (((List.range (xs.length - 1)).filter fun k => !sLt (xs.getD k Str.empty) (xs.getD (k + 1) Str.empty)).map dn)), [some (.d (.tup l)), none, none]) :=
          x_lcF (emb := dn) (h := dn) (List.range (xs.length - 1)) (by simp_arith [m1, e_ifp ri, Int.toNat_natCast, upto_nat]) rfl (by rw [List.length_range, sizeLine_eq]; omega) fun k hk => by
            have hk : k < xs.length - 1 := List.mem_range.mp hk
            exact ⟨[some (.d (.tup l)), none, some (.d (dn k))], rfl, by simp_arith [ix k (by omega), a1, ix (k + 1) (by omega), fGe_s], fun _ => rfl, rfl⟩
        have ef2 := emp_filter (fun k => sLt (xs.getD k Str.empty) (xs.getD (k + 1) Str.empty)) dn (List.range (xs.length - 1))
        rw [← ris_ix] at ef2
        simp_arith [c_l_is_place, m_l_is_place, e, i0, lc, ef, lc2, ef2, w]
/-! ### the three tell what the law tells -/
/-- a value that can be shown -/
structure Vx (d : D) : Prop where
  ok : okX d = true
  wt : wtX d ≤ 9000000
  dp : dpX d ≤ 50
theorem vx_str {d : D} (h : okX d = true ∧ wtX d ≤ 9000000) : Okv d := by
  refine ⟨fun C ns xs e => ?_, fun x e => ?_⟩
  · subst e; simp [okX] at h
  · subst e
    have := h.2
    rw [wtX] at this; omega
theorem okXs_mem : ∀ {l : List D}, okXs l = true → ∀ x ∈ l, okX x = true
  | y :: r, h, x, hx => by
    rw [okXs, Bool.and_eq_true] at h
    rcases List.mem_cons.mp hx with rfl | hx
    · exact h.1
    · exact okXs_mem h.2 x hx
theorem wtXs_len : ∀ l : List D, 2 * l.length ≤ wtXs l
  | [] => Nat.zero_le _
  | x :: r => by
    have := wtXs_len r
    rw [wtXs, List.length_cons]; omega
theorem Vx.okp {d : D} (h : Vx d) : Okp d := by
  refine ⟨vx_str ⟨h.ok, h.wt⟩, fun l e => ?_⟩
  subst e
  have h1 := h.ok
  have h2 := h.wt
  rw [okX] at h1
  rw [wtX] at h2
  refine ⟨fun x hx => vx_str ⟨okXs_mem h1 x hx, ?_⟩, ?_⟩
  · have := wtXs_mem hx; omega
  · have := wtXs_len l
    omega
theorem r_right {d : D} (h : Vx d) : c_l_right [.d d] = some (.d (.bl true), [.d d]) := by
  have hp := h.okp
  have rp : fReprX d = some (.d (.str (rpX d))) := fReprX_ok h.ok (by rw [sizeLine_eq]; have := h.wt; omega) (Nat.le_trans h.dp (by omega))
  have w1' := r_l_is_word (L := LC) hp.1
  have w2' := r_l_is_word (L := UC) hp.1
  have r3 : fReprX (.lst [.lst [.bl (wordV LC d), .bl (wordV UC d), .bl (placeV d)], .lst [.bl (wordV LC d), .bl (wordV UC d), .bl (placeV d)]]) = some (.d (.str (rpX (.lst [.lst [.bl (wordV LC d), .bl (wordV UC d), .bl (placeV d)], .lst [.bl (wordV LC d), .bl (wordV UC d), .bl (placeV d)]])))) := by
    refine fReprX_ok (by simp [okX, okXs]) ?_ (by simp [dpX, dpXs])
    rw [sizeLine_eq]; simp [wtX, wtXs]
  simp_arith [c_l_right, m_l_right, rp, w1', w2', r_l_is_place hp, r_is_name hp.1, r_is_mark hp.1, r_is_place hp, r3, sizeLine_eq]
end K02

set_option Elab.async false
set_option linter.all false
set_option maxRecDepth 100000
set_option maxHeartbeats 4000000
namespace K02
open PySem PySem.Spec PyProof.Rows L2 BM
local macro_rules
  | `(tactic| simp_arith [$xs,*]) => `(tactic| simp -implicitDefEqProofs only [↓ob_some, ↓oo_some, ↓vr_some, ↓sl_some, ↓al_some, ↓fk_nx, ↓fk_bk, ↓fk_ct, ↓fk_rt, ↓lk_nx, ↓lk_bk, ↓lk_ct, ↓lk_rt, ↓rk_nx, ↓rk_rt, ↓ifk_t, ↓ifk_f, ↓rg1_int, ↓e_pure, ↓e_bind, ↓e_var, ↓e_fz, ↓e_mv, ↓e_C, ↓e_val, ↓e_pl, ↓e_mods0, ↓e_mods, ↓e_get0, ↓e_get, ↓e_getV, ↓e_getP, ↓e_flatD, ↓e_flatL, ↓leafs_leaf, ↓e_leafs0, ↓e_leafsD, ↓e_ops, ↓e_op, ↓e_tst, ↓e_bO, ↓e_w1, ↓e_w2, ↓e_w1b, ↓e_w2b, ↓e_truth1, ↓e_truthB, ↓e_truthI, ↓e_truthN, ↓e_truthL, ↓e_truthT, ↓e_args0, ↓e_args, ↓e_tup, ↓e_lst, ↓e_if, ↓e_sif, ↓e_or, ↓e_and, ↓e_not, ↓e_mnot, ↓e_yes, ↓e_mor, ↓e_mand, ↓e_mset, ↓e_set, ↓e_setO, ↓e_expr, ↓e_ret, ↓e_retN, ↓e_pass, ↓e_break, ↓e_cont, ↓e_seq, ↓e_gNm, ↓e_gTs0, ↓e_gTs, ↓e_gTp, ↓e_gTpST, ↓e_gTpSL, ↓e_tgt, ↓e_sfor, ↓e_for0, ↓e_for, ↓e_wipe0, ↓e_wipe, ↓e_iS, ↓e_listT, ↓e_listL, ↓e_iR1, ↓e_rev, ↓e_aval, ↓e_aplc, ↓e_mars0, ↓e_mars, ↓e_take0, ↓e_takeV, ↓e_takeP, ↓e_give0, ↓e_giveV, ↓e_giveP, ↓e_call, ↓e_callM, ↓e_in0, ↓e_inT, ↓e_inF, ↓e_outs0, ↓e_outsT, ↓e_outsF, ↓e_permF, ↓e_permL0, ↓e_permL, ↓pcons_some, ↓e_app, ↓e_msetB0, ↓e_msetB1, ↓e_par, ↓e_par3, ↓e_fld, ↓e_obj, ↓e_make, ↓mkK_ok, ↓e_enA, ↓e_rv, ↓e_dctS, ↓e_lrg, ↓e_isi, ↓e_upper, ↓e_revX, ↓revX_t, ↓e_iSX, ↓e_chn, ↓chK_eq, ↓e_zipS, ↓e_seqL, ↓e_seqT, ↓e_seqS, ↓e_fListXL, ↓e_fListXT, ↓e_join2, ↓joinK_str, ↓e_join, e_fEqZT, e_fEqZL, e_fNeZT, e_fNeZL, e_toD, e_toL, toDs_leaf, e_toDs0, e_toDs, e_fAddI, e_fSubI,  e_fLtI, e_fLeI, e_fGtI, e_fGeI, e_fEqI, e_fEqS, e_fEqB, ↓e_fNe, ↓e_fNotIn, ↓e_fIsN, e_fLenL, e_fLenT, e_fListL, e_fListT, e_fTupL, e_fTupT, e_fMin, e_fMax, e_fNegI,
      List.getElem?_cons_succ, List.getElem?_cons_zero, List.set_cons_succ, List.set_cons_zero, List.length_cons, List.length_nil, List.replicate_succ, List.replicate_zero, List.cons_append, List.nil_append, Nat.reduceAdd, Nat.reduceLT, Nat.reduceEqDiff, if_true, if_false, and_self, ite_true, ite_false, Bool.false_eq_true, Bool.not_true, Bool.not_false, Bool.or_true, Bool.true_or, decide_true, decide_false, eq_self, $xs,*])

/-! ### drawn words -/
abbrev LS : List D := [.str LC, .str UC, .str ("az" : Str), .str ("AZ" : Str)]
abbrev ZS : List D := [.int 0, .int 1, .int 1, .int 2, .int 3, .int 7, .int 8, .int 8, .int 9, .int 12]
abbrev OX : Str := (" _-.,?0129{}[]@`\n/|~" : Str)
abbrev OL : List D := [.str ("a" : Str), .str ("z" : Str), .str ("A" : Str), .str ("Z" : Str), .str ("" : Str)]
theorem LS_ok : ∀ d ∈ LS, ∃ x, d = .str x ∧ asc x = true ∧ 0 < x.cps.toList.length ∧ x.length ≤ 26 := by
  intro d hd
  simp only [List.mem_cons, List.not_mem_nil, or_false] at hd
  rcases hd with rfl | rfl | rfl | rfl <;> exact ⟨_, rfl, by decide +kernel, by decide +kernel, by decide +kernel⟩
theorem ZS_ok : ∀ d ∈ ZS, ∃ k : Nat, d = dn k ∧ k ≤ 12 := by
  intro d hd
  simp only [List.mem_cons, List.not_mem_nil, or_false] at hd
  rcases hd with rfl | rfl | rfl | rfl | rfl | rfl | rfl | rfl | rfl | rfl
  · exact ⟨0, rfl, by omega⟩
  · exact ⟨1, rfl, by omega⟩
  · exact ⟨1, rfl, by omega⟩
  · exact ⟨2, rfl, by omega⟩
  · exact ⟨3, rfl, by omega⟩
  · exact ⟨7, rfl, by omega⟩
  · exact ⟨8, rfl, by omega⟩
  · exact ⟨8, rfl, by omega⟩
  · exact ⟨9, rfl, by omega⟩
  · exact ⟨12, rfl, by omega⟩
theorem OL_ok : ∀ d ∈ sgs OX ++ OL, ∃ x, d = .str x ∧ asc x = true ∧ x.length ≤ 1 := by
  intro d hd
  rcases List.mem_append.mp hd with hd | hd
  · obtain ⟨y, e, h1, h2⟩ := sgs_asc (x := OX) (by decide +kernel) d hd
    exact ⟨y, e, h1, by omega⟩
  · simp only [List.mem_cons, List.not_mem_nil, or_false] at hd
    rcases hd with rfl | rfl | rfl | rfl | rfl <;> exact ⟨_, rfl, by decide +kernel, by decide +kernel⟩
/-- signs drawn from a text, joined -/
theorem r_signs {own : List Nat} {src : M (List D)} {i : Nat} {n : Nat} {L : Str} (hL : asc L = true ∧ 0 < L.cps.toList.length ∧ L.length ≤ 26) {me : M O} {sz : Nat} (hsz : sz ≤ 100) (hn : n + 200 < 2 ^ 39) {env : O → BM.Env} {s0 s1 : BM.Env} {dk : O} (hD : Deck n dk)
    (hs : src s0 = some ((List.range sz).map dn, s1)) (h1 : wipeE s1 own = env dk)
    (hk : ∀ (k : Nat) (dk dk' : O) (c : Nat), c_l_one_of [dk, .d (.str L)] = some (.d (.str ⟨#[c]⟩), [dk', .d (.str L)]) → ∃ s2 s3, gNm i (dn k) (env dk) = some ((), s2) ∧ me s2 = some (.d (.str ⟨#[c]⟩), s3) ∧ wipeE s3 own = env dk') :
    ∃ (l : List Str) (x : Str) (dk' : O), mLc own src (gNm i) tYes me s0 = some (.lst (leaf (l.map D.str)), env dk') ∧ fJoin ("" : Str) (.lst (l.map D.str)) = some (.d (.str x)) ∧ Deck (n + sz) dk' ∧ asc x = true ∧ x.length = sz := by
  obtain ⟨l, s', e1, e2, e3, dk', e4, e5⟩ := x_lcS (emb := dn) (out := fun x : Str => D.str x) (own := own) (src := src) (g := gNm i) (elt := me) (P := fun k s => ∃ d, s = env d ∧ Deck (n + k) d) (Q := fun _ (x : Str) => asc x = true ∧ x.length = 1) (s0 := s0) (List.range sz) hs ⟨dk, h1, hD⟩ (by rw [List.length_range, sizeLine_eq]; omega) (by
    rintro k x s hx ⟨d, rfl, hd⟩
    have hk' : k < sz := by simpa using (List.getElem?_eq_some_iff.mp hx).1
    obtain ⟨c, d', g1, g2, g3⟩ := r_pickS hd (by omega) hL.2.1 (by have := hL.2.2; omega)
    obtain ⟨s2, s3, q1, q2, q3⟩ := hk x d d' c g1
    exact ⟨s2, s3, ⟨#[c]⟩, q1, q2, ⟨asc_one (asc_mem hL.1 g3), rfl⟩, d', q3, by rw [show n + (k + 1) = n + k + 1 by omega]; exact g2⟩)
  subst e4
  rw [List.length_range] at e2 e5
  have e6 := by_place e3
  have sm : (l.map (·.length)).sum = sz := by
    rw [← e2]
    clear e1 e2 e3
    induction l with
    | nil => rfl
    | cons a r ih =>
      rw [List.map_cons, List.sum_cons, List.length_cons, ih fun y hy => e6 y (List.mem_cons_of_mem _ hy), (e6 a List.mem_cons_self).2]; omega
  have l0 : ("" : Str).length = 0 := by decide +kernel
  have jn := fJoin_ok (sep := ("" : Str)) (xs := l) (by rw [sm, l0]; omega)
  exact ⟨l, Txt.join ("" : Str) l, dk', e1, jn, e5, asc_join (by decide +kernel) fun x hx => (e6 x hx).1, by rw [len_join0, sm]⟩
theorem r_word {n : Nat} {deck : O} (hD : Deck n deck) (hn : n + 1000 < 2 ^ 39) : ∃ (x : Str) (deck' : O) (n' : Nat), c_l_word [deck] = some (.d (.str x), [deck']) ∧ Deck n' deck' ∧ n' ≤ n + 20 ∧ asc x = true ∧ x.length ≤ 30 := by
  obtain ⟨d1, k1, e1, f1, g1⟩ := r_pickO hD (by omega) (o := .lst [.d (.str LC), .d (.str UC), .d (.str ("az" : Str)), .d (.str ("AZ" : Str))]) (l := LS) rfl (by simp) (by simp)
  obtain ⟨L, rfl, aL, lL, zL⟩ := LS_ok d1 g1
  obtain ⟨d2, k2, e2, f2, g2⟩ := r_pickO f1 (by omega) (o := .lst [.d (.int 0), .d (.int 1), .d (.int 1), .d (.int 2), .d (.int 3), .d (.int 7), .d (.int 8), .d (.int 8), .d (.int 9), .d (.int 12)]) (l := ZS) rfl (by simp) (by simp)
  obtain ⟨sz, rfl, hsz⟩ := ZS_ok d2 g2
  have ri : -(2 : Int) ^ 62 ≤ ((sz : Nat) : Int) ∧ ((sz : Nat) : Int) < 2 ^ 62 := by omega
  obtain ⟨l3, x, k3, e3, j3, f3, ax, zx⟩ := r_signs (own := [4]) (src := iR1 (mVar 2)) (i := 4) ⟨aL, lL, zL⟩ (me := mCall c_l_one_of [aplc' 0, aval (mVar 1)]) (sz := sz) (by omega) (by omega) (env := fun d => [some d, some (.d (.str L)), some (.d (dn sz)), none, none, none, none])
    (s0 := [some k2, some (.d (.str L)), some (.d (dn sz)), none, none, none, none]) (s1 := [some k2, some (.d (.str L)), some (.d (dn sz)), none, none, none, none]) f2 (by simp_arith [e_ifp ri, Int.toNat_natCast, upto_nat]) rfl (by
      intro k dk dk' c hc
      exact ⟨[some dk, some (.d (.str L)), some (.d (dn sz)), none, some (.d (dn k)), none, none], [some dk', some (.d (.str L)), some (.d (dn sz)), none, some (.d (dn k)), none, none], rfl, by simp_arith [hc], rfl⟩)
  obtain ⟨v, k4, e4, f4, g4⟩ := r_draw f3 (many := 3) ⟨by omega, by omega⟩ (by omega)
  have e4 : c_l_choice [k3, .d (.int 3)] = some (.d (dn v), [k4, .d (.int 3)]) := e4
  by_cases hv : v = 0
  · have i0 : decide (((v : Nat) : Int) = 0) = true := decide_eq_true (by omega)
    obtain ⟨at_, k5, e5, f5, g5⟩ := r_draw f4 (many := sz + 1) ⟨by omega, by omega⟩ (by omega)
    have a1 : ((sz : Nat) : Int) + 1 = ((sz + 1 : Nat) : Int) := by omega
    have lx := fListX_s (x := OX) (by decide +kernel)
    have ad : fAdd (.lst (sgs OX)) (.lst OL) = some (.lst (leaf (sgs OX ++ OL))) := fAdd_ll (by rw [sgs_len]; decide +kernel)
    obtain ⟨d6, k6, e6, f6, g6⟩ := r_pickO f5 (by omega) (o := .lst (leaf (sgs OX ++ OL))) (l := sgs OX ++ OL) (by show listOfD (.lst (O.toDs (leaf _))) = _; rw [toDs_leaf]; rfl) (by simp) (by rw [List.length_append, sgs_len]; decide +kernel)
    obtain ⟨y, rfl, ay, zy⟩ := OL_ok d6 g6
    obtain ⟨w, k7, e7, f7, g7⟩ := r_draw f6 (many := 2) ⟨by omega, by omega⟩ (by omega)
    have e7 : c_l_choice [k6, .d (.int 2)] = some (.d (dn w), [k7, .d (.int 2)]) := e7
    have c1 := fSlH_s (x := x) (i := ((at_ : Nat) : Int)) (by omega)
    have c2 := fSlL_s (x := x) (i := ((at_ : Nat) : Int) + ((w : Nat) : Int)) (by omega)
    obtain ⟨a1', z1'⟩ := asc_cut (x := x) none (some ((at_ : Nat) : Int)) ax
    obtain ⟨a2', z2'⟩ := asc_cut (x := x) (some (((at_ : Nat) : Int) + ((w : Nat) : Int))) none ax
    have s1 := fAdd_s (a := cutS x none (some ((at_ : Nat) : Int))) (b := y) (by omega)
    have s2 := fAdd_s (a := cutS x none (some ((at_ : Nat) : Int)) ++ y) (b := cutS x (some (((at_ : Nat) : Int) + ((w : Nat) : Int))) none) (by rw [str_len_app]; omega)
    refine ⟨_, k7, _, ?_, f7, by omega, asc_app (asc_app a1' ay) a2', by rw [str_len_app, str_len_app]; omega⟩
    simp_arith [c_l_word, m_l_word, e1, e2, e3, j3, e4, i0, a1, e5, lx, ad, e6, c1, e7, c2, s1, s2]
  · have i0 : decide (((v : Nat) : Int) = 0) = false := decide_eq_false (by omega)
    refine ⟨x, k4, _, ?_, f4, by omega, ax, by omega⟩
    simp_arith [c_l_word, m_l_word, e1, e2, e3, j3, e4, i0]
end K02

set_option Elab.async false
set_option linter.all false
set_option maxRecDepth 100000
set_option maxHeartbeats 4000000
namespace K02
open PySem PySem.Spec PyProof.Rows L2 BM
local macro_rules
  | `(tactic| simp_arith [$xs,*]) => `(tactic| simp -implicitDefEqProofs only [↓ob_some, ↓oo_some, ↓vr_some, ↓sl_some, ↓al_some, ↓fk_nx, ↓fk_bk, ↓fk_ct, ↓fk_rt, ↓lk_nx, ↓lk_bk, ↓lk_ct, ↓lk_rt, ↓rk_nx, ↓rk_rt, ↓ifk_t, ↓ifk_f, ↓rg1_int, ↓e_pure, ↓e_bind, ↓e_var, ↓e_fz, ↓e_mv, ↓e_C, ↓e_val, ↓e_pl, ↓e_mods0, ↓e_mods, ↓e_get0, ↓e_get, ↓e_getV, ↓e_getP, ↓e_flatD, ↓e_flatL, ↓leafs_leaf, ↓e_leafs0, ↓e_leafsD, ↓e_ops, ↓e_op, ↓e_tst, ↓e_bO, ↓e_w1, ↓e_w2, ↓e_w1b, ↓e_w2b, ↓e_truth1, ↓e_truthB, ↓e_truthI, ↓e_truthN, ↓e_truthL, ↓e_truthT, ↓e_args0, ↓e_args, ↓e_tup, ↓e_lst, ↓e_if, ↓e_sif, ↓e_or, ↓e_and, ↓e_not, ↓e_mnot, ↓e_yes, ↓e_mor, ↓e_mand, ↓e_mset, ↓e_set, ↓e_setO, ↓e_expr, ↓e_ret, ↓e_retN, ↓e_pass, ↓e_break, ↓e_cont, ↓e_seq, ↓e_gNm, ↓e_gTs0, ↓e_gTs, ↓e_gTp, ↓e_gTpST, ↓e_gTpSL, ↓e_tgt, ↓e_sfor, ↓e_for0, ↓e_for, ↓e_wipe0, ↓e_wipe, ↓e_iS, ↓e_listT, ↓e_listL, ↓e_iR1, ↓e_rev, ↓e_aval, ↓e_aplc, ↓e_mars0, ↓e_mars, ↓e_take0, ↓e_takeV, ↓e_takeP, ↓e_give0, ↓e_giveV, ↓e_giveP, ↓e_call, ↓e_callM, ↓e_in0, ↓e_inT, ↓e_inF, ↓e_outs0, ↓e_outsT, ↓e_outsF, ↓e_permF, ↓e_permL0, ↓e_permL, ↓pcons_some, ↓e_app, ↓e_msetB0, ↓e_msetB1, ↓e_par, ↓e_par3, ↓e_fld, ↓e_obj, ↓e_make, ↓mkK_ok, ↓e_enA, ↓e_rv, ↓e_dctS, ↓e_lrg, ↓e_isi, ↓e_upper, ↓e_revX, ↓revX_t, ↓e_iSX, ↓e_dct0, ↓e_chn, ↓chK_eq, ↓e_zipS, ↓e_seqL, ↓e_seqT, ↓e_seqS, ↓e_fListXL, ↓e_fListXT, ↓e_join2, ↓joinK_str, ↓e_join, e_fEqZT, e_fEqZL, e_fNeZT, e_fNeZL, e_toD, e_toL, toDs_leaf, e_toDs0, e_toDs, e_fAddI, e_fSubI,  e_fLtI, e_fLeI, e_fGtI, e_fGeI, e_fEqI, e_fEqS, e_fEqB, ↓e_fNe, ↓e_fNotIn, ↓e_fIsN, e_fLenL, e_fLenT, e_fListL, e_fListT, e_fTupL, e_fTupT, e_fMin, e_fMax, e_fNegI,
      List.getElem?_cons_succ, List.getElem?_cons_zero, List.set_cons_succ, List.set_cons_zero, List.length_cons, List.length_nil, List.replicate_succ, List.replicate_zero, List.cons_append, List.nil_append, Nat.reduceAdd, Nat.reduceLT, Nat.reduceEqDiff, if_true, if_false, and_self, ite_true, ite_false, Bool.false_eq_true, Bool.not_true, Bool.not_false, Bool.or_true, Bool.true_or, decide_true, decide_false, eq_self, $xs,*])

/-! ### drawn marks -/
structure Mk (ms : List Str) (B : Nat) : Prop where
  ok : ∀ m ∈ ms, asc m = true ∧ m.length ≤ 12
  len : ms.length ≤ B
abbrev EM (dk : O) (ms : List Str) (x2 x3 : Option O) : BM.Env := [some dk, some (.lst (leaf (ms.map D.str))), x2, x3, none]
def notW : M Fl := sIf (mTst (w2b fNotIn) [mval (mVar 3), mPl 1]) (sExpr (mApp 1 (mVar 3))) (sPass)
def markW : M Fl := sSeq (sSet 3 (mJoin2 (mC (.str ("" : Str))) (mLc [4] (iR1 (mOp (w2 fAdd) [mval (mC (.int 1)), mval (mCall c_l_choice [aplc' 0, aval (mC (.int 4))])])) (gNm 4) (tYes) (mCall c_l_one_of [aplc' 0, aval (mC (.str ("ABZ" : Str)))]))))
  (sSeq (sIf (mTst (w2b fEq) [mval (mCall c_l_choice [aplc' 0, aval (mC (.int 4))]), mval (mC (.int 0))]) (sSet 3 (mOp (w2 fAdd) [mval (mVar 3), mval (mOp fSlL [mval (mC (.str ("ABCDEFGH" : Str))), mval (mOp (w1 fLen) [mval (mVar 3)])])])) (sPass))
  notW)
theorem m_l_marks_eq : m_l_marks = sSeq (sSetO 1 (mLst []))
  (sSeq (sFor (iR1 (mCall c_l_choice [aplc' 0, aval (mC (.int 6))])) (gNm 2) markW)
  (sRet (mOp (w1 fSorted) [mPl 1]))) := rfl
theorem r_markW {n : Nat} {dk : O} (hD : Deck n dk) (hn : n + 1000 < 2 ^ 39) {ms : List Str} {B : Nat} (hm : Mk ms B) (hB : B ≤ 100) {x2 x3 : Option O} :
    ∃ (dk' : O) (n' : Nat) (ms' : List Str) (y3 : Option O), markW (EM dk ms x2 x3) = some (.nx, EM dk' ms' x2 y3) ∧ Deck n' dk' ∧ n' ≤ n + 10 ∧ Mk ms' (B + 1) := by
  obtain ⟨v, k1, e1, f1, g1⟩ := r_draw hD (many := 4) ⟨by omega, by omega⟩ (by omega)
  have e1 : c_l_choice [dk, .d (.int 4)] = some (.d (dn v), [k1, .d (.int 4)]) := e1
  have a1 : (1 : Int) + ((v : Nat) : Int) = ((1 + v : Nat) : Int) := by omega
  have ri : -(2 : Int) ^ 62 ≤ ((1 + v : Nat) : Int) ∧ ((1 + v : Nat) : Int) < 2 ^ 62 := by omega
  obtain ⟨l3, x, k3, e3, j3, f3, ax, zx⟩ := r_signs (own := [4]) (src := iR1 (mOp (w2 fAdd) [mval (mC (.int 1)), mval (mCall c_l_choice [aplc' 0, aval (mC (.int 4))])])) (i := 4) (L := ("ABZ" : Str)) ⟨by decide +kernel, by decide +kernel, by decide +kernel⟩
    (me := mCall c_l_one_of [aplc' 0, aval (mC (.str ("ABZ" : Str)))]) (sz := 1 + v) (by omega) (by omega) (env := fun d => EM d ms x2 x3) (s0 := EM dk ms x2 x3) (s1 := EM k1 ms x2 x3) f1 (by simp_arith [e1, a1, e_ifp ri, Int.toNat_natCast, upto_nat]) rfl (by
      intro k dk dk' c hc
      exact ⟨[some dk, some (.lst (leaf (ms.map D.str))), x2, x3, some (.d (dn k))], [some dk', some (.lst (leaf (ms.map D.str))), x2, x3, some (.d (dn k))], rfl, by simp_arith [hc], rfl⟩)
  obtain ⟨w, k4, e4, f4, g4⟩ := r_draw f3 (many := 4) ⟨by omega, by omega⟩ (by omega)
  have e4 : c_l_choice [k3, .d (.int 4)] = some (.d (dn w), [k4, .d (.int 4)]) := e4
  have fin : ∀ (y : Str) (y3 : Option O), asc y = true → y.length ≤ 12 → y3 = some (.d (.str y)) → ∃ ms', Mk ms' (B + 1) ∧ notW (EM k4 ms x2 y3) = some (.nx, EM k4 ms' x2 y3) := by
    rintro y y3 ay zy rfl
    obtain ⟨b, hb⟩ := fIn_strs ay fun m h => (hm.ok m h).1
    cases b with
    | true =>
      refine ⟨ms, ⟨hm.ok, Nat.le_succ_of_le hm.len⟩, ?_⟩
      simp_arith [notW, hb]
    | false =>
      have zl := leaf_lt (l := ms.map D.str) (by rw [List.length_map]; have := hm.len; omega)
      refine ⟨ms ++ [y], ⟨fun m h => ?_, by rw [List.length_append]; have := hm.len; simp; omega⟩, ?_⟩
      · rcases List.mem_append.mp h with h | h
        · exact hm.ok m h
        · rw [List.mem_singleton.mp h]; exact ⟨ay, zy⟩
      · have em : leaf (ms.map D.str) ++ [O.d (.str y)] = leaf ((ms ++ [y]).map D.str) := by rw [leaf_snoc, List.map_append]; rfl
        simp_arith [notW, hb, e_ifp zl, em]
  by_cases hw : w = 0
  · have i0 : decide (((w : Nat) : Int) = 0) = true := decide_eq_true (by omega)
    have ln := BM.fLen_s (x := x) (by omega)
    have c2 := fSlL_s (x := ("ABCDEFGH" : Str)) (i := ((x.length : Nat) : Int)) (by decide +kernel)
    obtain ⟨a2', z2'⟩ := asc_cut (x := ("ABCDEFGH" : Str)) (some ((x.length : Nat) : Int)) none (by decide +kernel)
    have l8 : ("ABCDEFGH" : Str).length = 8 := by decide +kernel
    have s2 := fAdd_s (a := x) (b := cutS ("ABCDEFGH" : Str) (some ((x.length : Nat) : Int)) none) (by omega)
    obtain ⟨ms', m1, m2⟩ := fin (x ++ cutS ("ABCDEFGH" : Str) (some ((x.length : Nat) : Int)) none) _ (asc_app ax a2') (by rw [str_len_app]; omega) rfl
    refine ⟨k4, _, ms', some (.d (.str (x ++ cutS ("ABCDEFGH" : Str) (some ((x.length : Nat) : Int)) none))), ?_, f4, by omega, m1⟩
    simp_arith [markW, e3, j3, e4, i0, ln, c2, s2, m2]
  · have i0 : decide (((w : Nat) : Int) = 0) = false := decide_eq_false (by omega)
    obtain ⟨ms', m1, m2⟩ := fin x _ ax (by omega) rfl
    refine ⟨k4, _, ms', some (.d (.str x)), ?_, f4, by omega, m1⟩
    simp_arith [markW, e3, j3, e4, i0, m2]
theorem r_marks {n : Nat} {dk : O} (hD : Deck n dk) (hn : n + 2000 < 2 ^ 39) : ∃ (ms : List Str) (dk' : O) (n' : Nat), c_l_marks [dk] = some (.lst (leaf (ms.map D.str)), [dk']) ∧ Deck n' dk' ∧ n' ≤ n + 100 ∧ Mk ms 6 := by
  obtain ⟨v, k1, e1, f1, g1⟩ := r_draw hD (many := 6) ⟨by omega, by omega⟩ (by omega)
  have e1 : c_l_choice [dk, .d (.int 6)] = some (.d (dn v), [k1, .d (.int 6)]) := e1
  have ri : -(2 : Int) ^ 62 ≤ ((v : Nat) : Int) ∧ ((v : Nat) : Int) < 2 ^ 62 := by omega
  obtain ⟨s', e2, k2, n2, ms, x2, x3, rfl, f2, g2, m2⟩ := x_forS (emb := dn) (g := gNm 2) (body := markW) (P := fun i s => ∃ dk n' ms x2 x3, s = EM dk ms x2 x3 ∧ Deck n' dk ∧ n' ≤ n + 1 + 10 * i ∧ Mk ms i) (s0 := EM k1 [] none none) (List.range v) ⟨k1, n + 1, [], none, none, rfl, f1, by omega, fun m h => (nomatch h), by simp⟩ (by
    rintro i x s hx ⟨dk, n', ms, x2, x3, rfl, h1, h2, h3⟩
    have hi : i < v := by simpa using (List.getElem?_eq_some_iff.mp hx).1
    obtain ⟨dk', n2, ms', y3, q1, q2, q3, q4⟩ := r_markW h1 (by omega) h3 (by omega) (x2 := some (.d (dn x))) (x3 := x3)
    exact ⟨_, _, rfl, q1, dk', n2, ms', _, y3, rfl, q2, by omega, q4⟩)
  rw [List.length_range] at g2 m2
  have m2l := m2.len
  have so := fSorted_str (l := ms) (by rw [sizeLine_eq]; omega)
  refine ⟨srtT ms, k2, n2, ?_, f2, by omega, fun m h => m2.ok m ((srtT_perm ms).mem_iff.mp h), by rw [(srtT_perm ms).length_eq]; omega⟩
  have e0 : c_l_marks = callM [true] 4 m_l_marks := rfl
  rw [e0, m_l_marks_eq]
  have e2' : forL (gNm 2) markW (List.map dn (List.range v)) [some k1, some (.lst []), none, none, none] = _ := e2
  simp_arith [e1, e_ifp ri, Int.toNat_natCast, upto_nat, e2', so]
/-! ### parts -/
def Part (x : D) : Prop := okX x = true ∧ wtX x ≤ 10000 ∧ dpX x ≤ 5
def PartL (l : List D) (B : Nat) : Prop := (∀ x ∈ l, Part x) ∧ l.length ≤ B
theorem PartL.app {a b : List D} {A B : Nat} (h : PartL a A) (k : PartL b B) : PartL (a ++ b) (A + B) := ⟨fun x hx => (List.mem_append.mp hx).elim (h.1 x) (k.1 x), by rw [List.length_append]; have := h.2; have := k.2; omega⟩
theorem PartL.take {a : List D} {A : Nat} (h : PartL a A) (k : Nat) : PartL (a.take k) A := ⟨fun x hx => h.1 x (List.mem_of_mem_take hx), by rw [List.length_take]; have := h.2; omega⟩
theorem PartL.drop {a : List D} {A : Nat} (h : PartL a A) (k : Nat) : PartL (a.drop k) A := ⟨fun x hx => h.1 x (List.mem_of_mem_drop hx), by rw [List.length_drop]; have := h.2; omega⟩
theorem PartL.rev {a : List D} {A : Nat} (h : PartL a A) : PartL a.reverse A := ⟨fun x hx => h.1 x (List.mem_reverse.mp hx), by rw [List.length_reverse]; exact h.2⟩
theorem PartL.one {x : D} (h : Part x) : PartL [x] 1 := ⟨fun y hy => by rw [List.mem_singleton.mp hy]; exact h, Nat.le_refl _⟩
theorem part_str {x : Str} (h : asc x = true) (hz : x.length ≤ 999) : Part (.str x) := ⟨by rw [okX]; exact asc_ok h, by rw [wtX]; omega, by simp [dpX]⟩
theorem Mk.parts {ms : List Str} {B : Nat} (h : Mk ms B) : PartL (ms.map D.str) B := ⟨fun d hd => by
  obtain ⟨m, hm, rfl⟩ := List.mem_map.mp hd
  exact part_str (h.ok m hm).1 (by have := (h.ok m hm).2; omega), by rw [List.length_map]; exact h.len⟩
theorem mk_lst {ms : List Str} (h : Mk ms 6) : okX (.lst (ms.map D.str)) = true ∧ wtX (.lst (ms.map D.str)) ≤ 900 ∧ dpX (.lst (ms.map D.str)) ≤ 1 := by
  refine ⟨by rw [okX]; exact okXs_all fun x hx => (h.parts.1 x hx).1, ?_, ?_⟩
  · have := wtXs_map (f := D.str) (B := 122) (l := ms) fun x hx => by rw [wtX]; have := (h.ok x hx).2; omega
    have h2 : ms.length * (122 + 2) ≤ 6 * 124 := Nat.mul_le_mul_right _ h.len
    rw [wtX]; omega
  · have := dpXs_map (f := D.str) (B := 0) (l := ms) fun x hx => by simp [dpX]
    rw [dpX]; omega
abbrev XS : List D := [.non, .bl true, .int 0, .str ("" : Str), .str ("a" : Str), .str ("A" : Str), .tup [], .tup [.str ("A" : Str)], .lst [], .lst [.str ("A" : Str)], .dct [], .dct [(.str ("A" : Str), .int 1)], .int 1000000000000000000000000000000000000000]
theorem XS_ok : ∀ d ∈ XS, Part d := by
  have z : (XS.all fun d => okX d && decide (wtX d ≤ 10000) && decide (dpX d ≤ 5)) = true := by decide +kernel
  intro d hd
  have h := List.all_eq_true.mp z d hd
  simp only [Bool.and_eq_true, decide_eq_true_eq] at h
  exact ⟨h.1.1, h.1.2, h.2⟩
theorem fPow39 : fPow (.int 10) (.int 39) = some (.d (.int 1000000000000000000000000000000000000000)) := rfl
theorem r_other {n : Nat} {dk : O} (hD : Deck n dk) (hn : n + 10 < 2 ^ 39) {ms : List Str} (hm : Mk ms 6) : ∃ (v : D) (dk' : O), c_l_other [dk, .d (.lst (ms.map D.str))] = some (.d v, [dk', .d (.lst (ms.map D.str))]) ∧ Deck (n + 1) dk' ∧ Part v := by
  have wd := wtDs_str (l := ms) (B := 12) fun x hx => (hm.ok x hx).2
  have h2 : ms.length * (10 * 12 + 4) ≤ 6 * 124 := Nat.mul_le_mul_right _ hm.len
  obtain ⟨y, hy, ay, zy⟩ := fStrY_strs (l := ms) (fun x hx => (hm.ok x hx).1) (by omega)
  obtain ⟨m1, m2, m3⟩ := mk_lst hm
  obtain ⟨LL, hLL⟩ : ∃ L, L = D.lst (ms.map D.str) := ⟨_, rfl⟩
  rw [← hLL] at hy m1 m2 m3 ⊢
  obtain ⟨v, k1, e1, f1, g1⟩ := r_pick hD (by omega) (it := .lst (XS ++ [.tup [LL], .lst [LL], .str y])) (l := XS ++ [.tup [LL], .lst [LL], .str y]) rfl (by simp) (by simp)
  refine ⟨v, k1, ?_, f1, ?_⟩
  · simp only [List.cons_append, List.nil_append] at e1
    simp_arith [c_l_other, m_l_other, fPow39, hy, List.map_cons, List.map_nil, List.zip_cons_cons, List.zip_nil_right, O.toD, O.toDs, e1]
  · rcases List.mem_append.mp g1 with h | h
    · exact XS_ok v h
    · simp only [List.mem_cons, List.not_mem_nil, or_false] at h
      rcases h with rfl | rfl | rfl
      · exact ⟨by rw [okX, okXs, okXs, m1]; rfl, by rw [wtX, wtXs, wtXs]; omega, by rw [dpX, dpXs, dpXs]; omega⟩
      · exact ⟨by rw [okX, okXs, okXs, m1]; rfl, by rw [wtX, wtXs, wtXs]; omega, by rw [dpX, dpXs, dpXs]; omega⟩
      · exact part_str ay (by omega)
end K02

set_option Elab.async false
set_option linter.all false
set_option maxRecDepth 100000
set_option maxHeartbeats 4000000
namespace K02
open PySem PySem.Spec PyProof.Rows L2 BM
local macro_rules
  | `(tactic| simp_arith [$xs,*]) => `(tactic| simp -implicitDefEqProofs only [↓ob_some, ↓oo_some, ↓vr_some, ↓sl_some, ↓al_some, ↓fk_nx, ↓fk_bk, ↓fk_ct, ↓fk_rt, ↓lk_nx, ↓lk_bk, ↓lk_ct, ↓lk_rt, ↓rk_nx, ↓rk_rt, ↓ifk_t, ↓ifk_f, ↓rg1_int, ↓e_pure, ↓e_bind, ↓e_var, ↓e_fz, ↓e_mv, ↓e_C, ↓e_val, ↓e_pl, ↓e_mods0, ↓e_mods, ↓e_get0, ↓e_get, ↓e_getV, ↓e_getP, ↓e_flatD, ↓e_flatL, ↓leafs_leaf, ↓e_leafs0, ↓e_leafsD, ↓e_ops, ↓e_op, ↓e_tst, ↓e_bO, ↓e_w1, ↓e_w2, ↓e_w1b, ↓e_w2b, ↓e_truth1, ↓e_truthB, ↓e_truthI, ↓e_truthN, ↓e_truthL, ↓e_truthT, ↓e_args0, ↓e_args, ↓e_tup, ↓e_lst, ↓e_if, ↓e_sif, ↓e_or, ↓e_and, ↓e_not, ↓e_mnot, ↓e_yes, ↓e_mor, ↓e_mand, ↓e_mset, ↓e_set, ↓e_setO, ↓e_expr, ↓e_ret, ↓e_retN, ↓e_pass, ↓e_break, ↓e_cont, ↓e_seq, ↓e_gNm, ↓e_gTs0, ↓e_gTs, ↓e_gTp, ↓e_gTpST, ↓e_gTpSL, ↓e_tgt, ↓e_sfor, ↓e_for0, ↓e_for, ↓e_wipe0, ↓e_wipe, ↓e_iS, ↓e_listT, ↓e_listL, ↓e_iR1, ↓e_rev, ↓e_aval, ↓e_aplc, ↓e_mars0, ↓e_mars, ↓e_take0, ↓e_takeV, ↓e_takeP, ↓e_give0, ↓e_giveV, ↓e_giveP, ↓e_call, ↓e_callM, ↓e_in0, ↓e_inT, ↓e_inF, ↓e_outs0, ↓e_outsT, ↓e_outsF, ↓e_permF, ↓e_permL0, ↓e_permL, ↓pcons_some, ↓e_app, ↓e_msetB0, ↓e_msetB1, ↓e_par, ↓e_par3, ↓e_fld, ↓e_obj, ↓e_make, ↓mkK_ok, ↓e_enA, ↓e_rv, ↓e_dctS, ↓e_lrg, ↓e_isi, ↓e_upper, ↓e_revX, ↓revX_t, ↓e_iSX, ↓e_dct0, ↓e_chn, ↓chK_eq, ↓e_zipS, ↓e_seqL, ↓e_seqT, ↓e_seqS, ↓e_fListXL, ↓e_fListXT, ↓e_join2, ↓joinK_str, ↓e_join, e_fEqZT, e_fEqZL, e_fNeZT, e_fNeZL, e_toD, e_toL, toDs_leaf, e_toDs0, e_toDs, e_fAddI, e_fSubI,  e_fLtI, e_fLeI, e_fGtI, e_fGeI, e_fEqI, e_fEqS, e_fEqB, ↓e_fNe, ↓e_fNotIn, ↓e_fIsN, e_fLenL, e_fLenT, e_fListL, e_fListT, e_fTupL, e_fTupT, e_fMin, e_fMax, e_fNegI,
      List.getElem?_cons_succ, List.getElem?_cons_zero, List.set_cons_succ, List.set_cons_zero, List.length_cons, List.length_nil, List.replicate_succ, List.replicate_zero, List.cons_append, List.nil_append, Nat.reduceAdd, Nat.reduceLT, Nat.reduceEqDiff, if_true, if_false, and_self, ite_true, ite_false, Bool.false_eq_true, Bool.not_true, Bool.not_false, Bool.or_true, Bool.true_or, decide_true, decide_false, eq_self, $xs,*])

/-! ### a drawn place -/
theorem slH_l {L : List D} {k : Nat} : fSlH [.lst L, .int ((k : Nat) : Int)] = some (.lst (leaf (L.take k))) := by
  show some (O.lst (leaf (BM.cutD L none (some ((k : Nat) : Int))))) = _
  rw [cut_to]
theorem slL_l {L : List D} {k : Nat} : fSlL [.lst L, .int ((k : Nat) : Int)] = some (.lst (leaf (L.drop k))) := by
  show some (O.lst (leaf (BM.cutD L (some ((k : Nat) : Int)) none))) = _
  rw [cut_from]
theorem slB_l {L : List D} {i j : Nat} : fSlB [.lst L, .int ((i : Nat) : Int), .int ((j : Nat) : Int)] = some (.lst (leaf ((L.drop i).take (j - i)))) := by
  show some (O.lst (leaf (BM.cutD L (some ((i : Nat) : Int)) (some ((j : Nat) : Int))))) = _
  rw [cut_mid]
theorem fAdd_p {a b : List D} {A B : Nat} (h : PartL a A) (k : PartL b B) (hz : A + B ≤ 1000) : fAdd (.lst a) (.lst b) = some (.lst (leaf (a ++ b))) := fAdd_ll (by have := h.2; have := k.2; omega)
theorem parts_vx {A : List D} (h : PartL A 30) : Vx (.tup A) ∧ Vx (.lst A) := by
  have o := okXs_all fun x hx => (h.1 x hx).1
  have w := wtXs_map (f := fun x : D => x) (B := 10000) (l := A) fun x hx => (h.1 x hx).2.1
  have d := dpXs_map (f := fun x : D => x) (B := 5) (l := A) fun x hx => (h.1 x hx).2.2
  rw [List.map_id'] at w d
  have z : A.length * (10000 + 2) ≤ 30 * 10002 := Nat.mul_le_mul_right _ h.2
  exact ⟨⟨by rw [okX]; exact o, by rw [wtX]; omega, by rw [dpX]; omega⟩, ⟨by rw [okX]; exact o, by rw [wtX]; omega, by rw [dpX]; omega⟩⟩
theorem r_place {n : Nat} {dk : O} (hD : Deck n dk) (hn : n + 5000 < 2 ^ 39) : ∃ (v : D) (dk' : O) (n' : Nat), c_l_place [dk] = some (.d v, [dk']) ∧ Deck n' dk' ∧ n' ≤ n + 200 ∧ Vx v := by
  obtain ⟨ms, k1, n1, e1, f1, g1, hm⟩ := r_marks hD (by omega)
  obtain ⟨w, k2, e2, f2, g2⟩ := r_draw f1 (many := 8) ⟨by omega, by omega⟩ (by omega)
  have e2 : c_l_choice [k1, .d (.int 8)] = some (.d (dn w), [k2, .d (.int 8)]) := e2
  have hl := hm.len
  obtain ⟨a, k3, e3, f3, g3⟩ := r_draw f2 (many := ms.length + 1) ⟨by omega, by omega⟩ (by omega)
  obtain ⟨x, k4, n4, e4, f4, g4, ax, zx⟩ := r_word f3 (by omega)
  obtain ⟨v, k5, e5, f5, g5⟩ := r_other f4 (by omega) hm
  have PL := hm.parts
  have ln : ((ms.map D.str).length : Int) + 1 = ((ms.length + 1 : Nat) : Int) := by rw [List.length_map]; omega
  obtain ⟨L, hL⟩ : ∃ L, L = ms.map D.str := ⟨_, rfl⟩
  rw [← hL] at e1 e5 PL ln
  have o1 : ((1 : Int)) = ((1 : Nat) : Int) := rfl
  have a1 : ((a : Nat) : Int) + 1 = ((a + 1 : Nat) : Int) := by omega
  have s1 : fSlH [.lst L, .int 1] = some (.lst (leaf (L.take 1))) := slH_l (k := 1)
  have p5 := ((PL.take a).app ((PL.drop a).take (a + 1 - a))).app (PL.drop a)
  have px := PartL.one (part_str ax (by omega))
  have pv := PartL.one g5
  have t1 := fAdd_p PL (PL.take 1) (by omega)
  have t2 := fAdd_p (PL.take a) ((PL.drop a).take (a + 1 - a)) (by omega)
  have t3 := fAdd_p ((PL.take a).app ((PL.drop a).take (a + 1 - a))) (PL.drop a) (by omega)
  have t4 := fAdd_p (PL.take a) px (by omega)
  have t5 := fAdd_p ((PL.take a).app px) (PL.drop a) (by omega)
  have t6 := fAdd_p (PL.take a) pv (by omega)
  have t7 := fAdd_p ((PL.take a).app pv) (PL.drop a) (by omega)
  obtain ⟨A3, h3⟩ : ∃ A, A = L ++ L.take 1 := ⟨_, rfl⟩
  obtain ⟨A4', h4'⟩ : ∃ A, A = L.take a ++ (L.drop a).take (a + 1 - a) := ⟨_, rfl⟩
  obtain ⟨A4, h4⟩ : ∃ A, A = A4' ++ L.drop a := ⟨_, rfl⟩
  obtain ⟨A5', h5'⟩ : ∃ A, A = L.take a ++ [D.str x] := ⟨_, rfl⟩
  obtain ⟨A5, h5⟩ : ∃ A, A = A5' ++ L.drop a := ⟨_, rfl⟩
  obtain ⟨A6', h6'⟩ : ∃ A, A = L.take a ++ [v] := ⟨_, rfl⟩
  obtain ⟨A6, h6⟩ : ∃ A, A = A6' ++ L.drop a := ⟨_, rfl⟩
  have q3 : PartL A3 30 := by rw [h3]; exact ⟨(PL.app (PL.take 1)).1, by have := (PL.app (PL.take 1)).2; omega⟩
  have q4 : PartL A4 30 := by rw [h4, h4']; exact ⟨p5.1, by have := p5.2; omega⟩
  have q5 : PartL A5 30 := by rw [h5, h5']; have z := ((PL.take a).app px).app (PL.drop a); exact ⟨z.1, by have := z.2; omega⟩
  have q6 : PartL A6 30 := by rw [h6, h6']; have z := ((PL.take a).app pv).app (PL.drop a); exact ⟨z.1, by have := z.2; omega⟩
  have q0 : PartL L 30 := ⟨PL.1, by have := PL.2; omega⟩
  have q2 : PartL L.reverse 30 := ⟨PL.rev.1, by have := PL.rev.2; omega⟩
  rw [← h3] at t1
  rw [← h4'] at t2 t3
  rw [← h4] at t3
  rw [← h5'] at t4 t5
  rw [← h5] at t5
  rw [← h6'] at t6 t7
  rw [← h6] at t7
  have ad : fAdd (.lst [.lst L, .lst L, .lst L.reverse, .lst A3, .lst A4]) (.lst [.lst A5, .lst A6]) = some (.lst (leaf [.lst L, .lst L, .lst L.reverse, .lst A3, .lst A4, .lst A5, .lst A6])) := fAdd_ll (by simp)
  by_cases hw : w = 7
  · have i7 : decide (((w : Nat) : Int) = 7) = true := decide_eq_true (by omega)
    refine ⟨.lst L, k5, _, ?_, f5, by omega, (parts_vx q0).2⟩
    simp_arith [c_l_place, m_l_place, e1, e2, ln, e3, s1, a1, slH_l, slL_l, slB_l, t1, t2, t3, e4, t4, t5, e5, t6, t7, ad, i7]
  · have i7 : decide (((w : Nat) : Int) = 7) = false := decide_eq_false (by omega)
    obtain ⟨A, hA, qA⟩ : ∃ A, ([.lst L, .lst L, .lst L.reverse, .lst A3, .lst A4, .lst A5, .lst A6] : List D)[w]? = some (D.lst A) ∧ PartL A 30 := by
      have hw' : w = 0 ∨ w = 1 ∨ w = 2 ∨ w = 3 ∨ w = 4 ∨ w = 5 ∨ w = 6 := by omega
      rcases hw' with h | h | h | h | h | h | h <;> rw [h]
      · exact ⟨L, rfl, q0⟩
      · exact ⟨L, rfl, q0⟩
      · exact ⟨_, rfl, q2⟩
      · exact ⟨A3, rfl, q3⟩
      · exact ⟨A4, rfl, q4⟩
      · exact ⟨A5, rfl, q5⟩
      · exact ⟨A6, rfl, q6⟩
    have ix := fIx_l hA
    refine ⟨.tup A, k5, _, ?_, f5, by omega, (parts_vx qA).1⟩
    simp_arith [c_l_place, m_l_place, e1, e2, ln, e3, s1, a1, slH_l, slL_l, slB_l, t1, t2, t3, e4, t4, t5, e5, t6, t7, ad, i7, ix]
/-! ### the law -/
abbrev V1 : List D := [.non, .bl true, .bl false, .int 0, .int 1, .int 1000000000000000000000000000000000000000, .str ("" : Str), .str ("a" : Str), .str ("z" : Str), .str ("A" : Str), .str ("Z" : Str), .str ("aa" : Str), .str ("aA" : Str), .str ("abcdefgh" : Str), .str ("abcdefghi" : Str), .str ("ABCDEFGH" : Str)]
abbrev V2 : List D := [.str ("ABCDEFGHI" : Str), .str ("a b" : Str), .str (" a" : Str), .str ("a\n" : Str), .str ("?" : Str), .tup [], .tup [.str ("A" : Str)], .tup [.str ("a" : Str)], .tup [.str ("A" : Str), .str ("A" : Str)], .tup [.str ("AB" : Str), .str ("A" : Str)], .tup [.str ("A" : Str), .str ("AA" : Str)], .lst [], .dct []]
def AA : Str := mulS ("A" : Str) 4000
abbrev V3 : List D := [.tup [.str ("A" : Str), .non], .tup [.str ("A" : Str), .int 1], .tup [.tup [.str ("A" : Str)]], .lst [.str ("A" : Str)], .dct [(.str ("A" : Str), .str ("B" : Str))], .tup [.str ("A" : Str), .str ("B" : Str), .str ("C" : Str), .str ("D" : Str), .str ("E" : Str), .str ("F" : Str), .str ("G" : Str)], .tup [.str ("" : Str)], .str AA]
theorem asc_repS {x : Str} (h : asc x = true) (n : Nat) : asc (repS x n) = true := by
  have z : ∀ (n : Nat) (acc : Array Nat), (∀ c ∈ acc.toList, c < 128) → ∀ c ∈ ((List.replicate n x.cps).foldl (· ++ ·) acc).toList, c < 128 := by
    intro n
    induction n with
    | zero => intro acc h; exact h
    | succ n ih =>
      intro acc k
      rw [List.replicate_succ, List.foldl_cons]
      refine ih _ fun c hc => ?_
      rw [Array.toList_append] at hc
      rcases List.mem_append.mp hc with hc | hc
      · exact k c hc
      · exact asc_iff.mp h c hc
  exact asc_iff.mpr (z n #[] fun c hc => by simp at hc)
theorem AA_eq : AA = repS ("A" : Str) 4000 := by
  unfold AA mulS
  rw [if_neg (by decide), if_neg (by decide +kernel)]; rfl
theorem AA_ok : Vx (.str AA) := by
  have l1 : ("A" : Str).length = 1 := by decide +kernel
  have l2 : AA.length = 4000 := by rw [AA_eq, repS_len, l1]
  exact ⟨by rw [okX, AA_eq]; exact asc_ok (asc_repS (by decide +kernel) _), by rw [wtX, l2]; decide, by simp [dpX]⟩
theorem V12_ok : ∀ d ∈ V1 ++ V2, Vx d := by
  have z : ((V1 ++ V2).all fun d => okX d && decide (wtX d ≤ 9000000) && decide (dpX d ≤ 50)) = true := by decide +kernel
  intro d hd
  have h := List.all_eq_true.mp z d hd
  simp only [Bool.and_eq_true, decide_eq_true_eq] at h
  exact ⟨h.1.1, h.1.2, h.2⟩
theorem V3_ok : ∀ d ∈ V3, Vx d := by
  have z : ((V3.take 7).all fun d => okX d && decide (wtX d ≤ 9000000) && decide (dpX d ≤ 50)) = true := by decide +kernel
  intro d hd
  have hd : d ∈ V3.take 7 ++ [.str AA] := hd
  rcases List.mem_append.mp hd with hd | hd
  · have h := List.all_eq_true.mp z d hd
    simp only [Bool.and_eq_true, decide_eq_true_eq] at h
    exact ⟨h.1.1, h.1.2, h.2⟩
  · rw [List.mem_singleton.mp hd]; exact AA_ok
theorem fMulA : fMulX (.str ("A" : Str)) (.int 4000) = some (.d (.str AA)) := by
  show (if 0 ≤ (4000 : Int) ∧ (4000 : Int) ≤ 100000 ∧ ("A" : Str).length ≤ 100 then some (O.d (.str (mulS ("A" : Str) 4000))) else none) = _
  rw [if_pos ⟨by decide, by decide, by decide +kernel⟩]; rfl
abbrev EL (sc : O) (dk : O) (vs : List D) (x3 : Option O) : BM.Env := [some sc, some dk, some (.lst (leaf vs)), x3, none]
def turnW : M Fl := sSeq (sSetO 2 (mOp (w2 fAdd) [mPl 2, mval (mLst [mCall c_l_word [aplc' 1], mCall c_l_place [aplc' 1]])]))
  (sExpr (mApp 2 (mTup [mCall c_l_word [aplc' 1], mCall c_l_word [aplc' 1]])))
theorem m_law_eq : m_law = sSeq (sSetO 1 (mCall c_l_source [aval (mVar 0)]))
  (sSeq (sSetO 2 (mLst [mC .non, mC (.bl true), mC (.bl false), mC (.int 0), mC (.int 1), mOp (w2 fPow) [mval (mC (.int 10)), mval (mC (.int 39))], mC (.str ("" : Str)), mC (.str ("a" : Str)), mC (.str ("z" : Str)), mC (.str ("A" : Str)), mC (.str ("Z" : Str)), mC (.str ("aa" : Str)), mC (.str ("aA" : Str)), mC (.str ("abcdefgh" : Str)), mC (.str ("abcdefghi" : Str)), mC (.str ("ABCDEFGH" : Str))]))
  (sSeq (sSetO 2 (mOp (w2 fAdd) [mPl 2, mval (mLst [mC (.str ("ABCDEFGHI" : Str)), mC (.str ("a b" : Str)), mC (.str (" a" : Str)), mC (.str ("a\n" : Str)), mC (.str ("?" : Str)), mTup [], mTup [mC (.str ("A" : Str))], mTup [mC (.str ("a" : Str))], mTup [mC (.str ("A" : Str)), mC (.str ("A" : Str))], mTup [mC (.str ("AB" : Str)), mC (.str ("A" : Str))], mTup [mC (.str ("A" : Str)), mC (.str ("AA" : Str))], mLst [], mDct0])]))
  (sSeq (sSetO 2 (mOp (w2 fAdd) [mPl 2, mval (mLst [mTup [mC (.str ("A" : Str)), mC .non], mTup [mC (.str ("A" : Str)), mC (.int 1)], mTup [mTup [mC (.str ("A" : Str))]], mLst [mC (.str ("A" : Str))], mDctS [("A" : Str)] [mC (.str ("B" : Str))], mTup [mC (.str ("A" : Str)), mC (.str ("B" : Str)), mC (.str ("C" : Str)), mC (.str ("D" : Str)), mC (.str ("E" : Str)), mC (.str ("F" : Str)), mC (.str ("G" : Str))], mTup [mC (.str ("" : Str))], mOp (w2 fMulX) [mval (mC (.str ("A" : Str))), mval (mC (.int 4000))]])]))
  (sSeq (sFor (iR1 (mC (.int 20))) (gNm 3) turnW)
  (sRet (mOp (bO (w2b fEqZ)) [mval (mLc [4] (iSX (mFz 2)) (gNm 4) (tNot (mTst truth1 [mval (mCall c_l_right [aval (mVar 4)])])) (mVar 4)), mval (mLst [])])))))) := rfl
theorem r_turn {n : Nat} {dk : O} (hD : Deck n dk) (hn : n + 10000 < 2 ^ 39) {sc : O} {vs : List D} (hv : ∀ v ∈ vs, Vx v) {x3 : Option O} (hl : vs.length ≤ 1000) :
    ∃ (dk' : O) (n' : Nat) (vs' : List D), turnW (EL sc dk vs x3) = some (.nx, EL sc dk' vs' x3) ∧ Deck n' dk' ∧ n' ≤ n + 400 ∧ (∀ v ∈ vs', Vx v) ∧ vs'.length = vs.length + 3 := by
  obtain ⟨x, k1, n1, e1, f1, g1, ax, zx⟩ := r_word hD (by omega)
  obtain ⟨p, k2, n2, e2, f2, g2, hp⟩ := r_place f1 (by omega)
  obtain ⟨y, k3, n3, e3, f3, g3, ay, zy⟩ := r_word f2 (by omega)
  obtain ⟨z, k4, n4, e4, f4, g4, az, zz⟩ := r_word f3 (by omega)
  have ad : fAdd (.lst vs) (.lst [.str x, p]) = some (.lst (leaf (vs ++ [.str x, p]))) := fAdd_ll (by simp; omega)
  have zl := leaf_lt (l := vs ++ [.str x, p]) (by simp; omega)
  have px := part_str ax (by omega)
  have py := part_str ay (by omega)
  have pz := part_str az (by omega)
  have pyz : PartL [.str y, .str z] 30 := ⟨fun d hd => by
    simp only [List.mem_cons, List.not_mem_nil, or_false] at hd
    rcases hd with rfl | rfl
    · exact py
    · exact pz, by simp⟩
  refine ⟨k4, n4, (vs ++ [.str x, p]) ++ [.tup [.str y, .str z]], ?_, f4, by omega, fun v hv' => ?_, by simp⟩
  · have em := leaf_snoc (vs ++ [.str x, p]) (.tup [.str y, .str z])
    simp_arith [turnW, e1, e2, ad, e3, e4, e_ifp zl, em]
  · rcases List.mem_append.mp hv' with h | h
    · rcases List.mem_append.mp h with h | h
      · exact hv v h
      · simp only [List.mem_cons, List.not_mem_nil, or_false] at h
        rcases h with rfl | rfl
        · exact ⟨px.1, by have := px.2.1; omega, by have := px.2.2; omega⟩
        · exact hp
    · rw [List.mem_singleton.mp h]; exact (parts_vx pyz).1
theorem r_law {ns : List Int} (h : ns.length ≤ 63) : ∃ outs, c_law [.d (.lst (ns.map D.int))] = some (.d (.bl true), outs) := by
  obtain ⟨deck, e1, d0⟩ := r_deck h
  obtain ⟨SC, hSC⟩ : ∃ S, S = D.lst (ns.map D.int) := ⟨_, rfl⟩
  rw [← hSC] at e1 ⊢
  have a1 : fAdd (.lst V1) (.lst V2) = some (.lst (leaf (V1 ++ V2))) := fAdd_ll (by simp)
  obtain ⟨W, hW⟩ : ∃ W, W = V1 ++ V2 := ⟨_, rfl⟩
  have a2 : fAdd (.lst W) (.lst V3) = some (.lst (leaf (W ++ V3))) := fAdd_ll (by rw [hW]; simp)
  obtain ⟨W2, hW2⟩ : ∃ W2, W2 = W ++ V3 := ⟨_, rfl⟩
  rw [← hW] at a1
  rw [← hW2] at a2
  have w2l : W2.length = 37 := by rw [hW2, hW]; rfl
  have w2ok : ∀ v ∈ W2, Vx v := fun v hv => by
    rw [hW2] at hv
    rcases List.mem_append.mp hv with hv | hv
    · rw [hW] at hv; exact V12_ok v hv
    · exact V3_ok v hv
  obtain ⟨s', e2, k2, n2, vs, x3, rfl, f2, g2, v2, l2⟩ := x_forS (emb := dn) (g := gNm 3) (body := turnW) (P := fun i s => ∃ dk n' vs x3, s = EL (.d SC) dk vs x3 ∧ Deck n' dk ∧ n' ≤ 400 * i ∧ (∀ v ∈ vs, Vx v) ∧ vs.length = 37 + 3 * i) (s0 := EL (.d SC) deck W2 none) (List.range 20) ⟨deck, 0, W2, none, rfl, d0, by omega, w2ok, w2l⟩ (by
    rintro i x s hx ⟨dk, n', vs, x3, rfl, h1, h2, h3, h4⟩
    have hi : i < 20 := by simpa using (List.getElem?_eq_some_iff.mp hx).1
    obtain ⟨dk', n2, vs', q1, q2, q3, q4, q5⟩ := r_turn h1 (by omega) (sc := .d SC) h3 (x3 := some (.d (dn x))) (by omega)
    exact ⟨_, _, rfl, q1, dk', n2, vs', _, rfl, q2, by omega, q4, by omega⟩)
  rw [List.length_range] at l2
  have lc : mLc [4] (iSX (mFz 2)) (gNm 4) (tNot (mTst truth1 [mval (mCall c_l_right [aval (mVar 4)])])) (mVar 4) (EL (.d SC) k2 vs x3) = some (.lst (leaf ((vs.filter fun _ => false).map fun x => x)), [some (.d SC), some k2, some (.d (.lst vs)), x3, none]) :=
    x_lcF (emb := fun x : D => x) (h := fun x => x) vs (by rw [List.map_id' vs]; simp_arith []) rfl (by rw [l2, sizeLine_eq]; omega) fun x hx =>
      ⟨[some (.d SC), some k2, some (.d (.lst vs)), x3, some (.d x)], rfl, by simp_arith [r_right (v2 x hx)], fun z => (nomatch z), rfl⟩
  have ef : (vs.filter fun _ => false) = [] := by simp
  rw [ef] at lc
  have ri : -(2 : Int) ^ 62 ≤ (20 : Int) ∧ (20 : Int) < 2 ^ 62 := by omega
  have up : upto 0 (Int.toNat 20) = (List.range 20).map dn := upto_nat 20
  have e0 : c_law = callM [false] 4 m_law := rfl
  refine ⟨[.d SC], ?_⟩
  rw [e0, m_law_eq]
  have e2' : forL (gNm 3) turnW (List.map dn (List.range 20)) [some (.d SC), some deck, some (.lst (leaf W2)), none, none] = _ := e2
  have lc' : mLc [4] (iSX (mFz 2)) (gNm 4) (tNot (mTst truth1 [mval (mCall c_l_right [aval (mVar 4)])])) (mVar 4) [some (.d SC), some k2, some (.lst (leaf vs)), x3, none] = _ := lc
  simp_arith [e1, fPow39, a1, List.map_cons, List.map_nil, List.zip_cons_cons, List.zip_nil_right, O.toD, O.toDs, fMulA, a2, e_ifp ri, up, e2', lc', List.isEmpty_nil]
end K02

set_option Elab.async false
set_option linter.all false
set_option maxRecDepth 100000
namespace K02
open PySem PySem.Spec PyProof.Rows L2 BM
def spLaw (K : PySem.W.Frag) : Sp := fun vs H Q _ => ∃ (a : Addr) (ns : List Int), vs = [.ref a] ∧ SqL K H a (ns.map V.int) ∧ ns.length ≤ 63 ∧ ∀ H', Q (.bl true) H'
theorem sp_law {K : PySem.W.Frag} : ∀ vs H Q E, spLaw K vs H Q E → spOf K 1 c_law vs H Q E := by
  rintro vs H Q E ⟨a, ns, rfl, hS, hl, q⟩
  obtain ⟨outs, e⟩ := r_law hl
  refine ⟨[], [.d (.lst (ns.map D.int))], .d (.bl true), outs, e, rfl, rfl, callM_len e, St.script hS, fun v H2 h => ?_⟩
  have ev := h.blv
  subst ev
  exact q H2
set_option maxHeartbeats 40000000 in
theorem all_mk {l : PySem.W.OpenLaw} {w : World} {K : PySem.W.Frag} {h : Heap} {mg : Str → Option Value} {fa f1 f2 f3 f4 f5 f6 f7 f8 f9 f10 f11 f12 f13 f14 f15 f16 : Addr} (X : K.In h) (G : h.Ns mainGlobals mg) (hfa : mg "law" = some (.ref fa))
    {od1 an1 od2 an2 od3 an3 od4 an4 od5 an5 od6 an6 od7 an7 od8 an8 od9 an9 od10 an10 od11 an11 od12 an12 od13 an13 od14 an14 od15 an15 od16 an16 : Option Addr} {sl1 sl2 sl3 sl4 sl5 sl6 sl7 sl8 sl9 sl10 sl11 sl12 sl13 sl14 sl15 sl16 : Array (Option Value)} {oc1 kV1 dc1 pm1 cd1 ct1 oc2 kV2 dc2 pm2 cd2 ct2 oc3 kV3 dc3 pm3 cd3 ct3 oc4 kV4 dc4 pm4 cd4 ct4 oc5 kV5 dc5 pm5 cd5 ct5 oc6 kV6 dc6 pm6 cd6 ct6 oc7 kV7 dc7 pm7 cd7 ct7 oc8 kV8 dc8 pm8 cd8 ct8 oc9 kV9 dc9 pm9 cd9 ct9 oc10 kV10 dc10 pm10 cd10 ct10 oc11 kV11 dc11 pm11 cd11 ct11 oc12 kV12 dc12 pm12 cd12 ct12 oc13 kV13 dc13 pm13 cd13 ct13 oc14 kV14 dc14 pm14 cd14 ct14 oc15 kV15 dc15 pm15 cd15 ct15 oc16 kV16 dc16 pm16 cd16 ct16 : Value} {u1 u2 u3 : Value}
    (a1 : PySem.W.nsIn K mainGlobals "is_word" = some (some (.ref f1))) (l1 : K.lookup f1 = some ⟨oc1, od1, .func (PySem.W.fnOf "is_word" "is_word" (defArgs s_is_word) (defBody s_is_word) (defScope s_is_word) .none kV1 dc1 pm1 an1 cd1 ct1), sl1⟩) (c1 : PySem.W.codeIn K cd1 "is_word" = true) (k1 : PySem.W.keepIn K (.ref f1) = true)
    (a2 : PySem.W.nsIn K mainGlobals "are_rising" = some (some (.ref f2))) (l2 : K.lookup f2 = some ⟨oc2, od2, .func (PySem.W.fnOf "are_rising" "are_rising" (defArgs s_are_rising) (defBody s_are_rising) (defScope s_are_rising) .none kV2 dc2 pm2 an2 cd2 ct2), sl2⟩) (c2 : PySem.W.codeIn K cd2 "are_rising" = true) (k2 : PySem.W.keepIn K (.ref f2) = true)
    (a3 : PySem.W.nsIn K mainGlobals "_law_source" = some (some (.ref f3))) (l3 : K.lookup f3 = some ⟨oc3, od3, .func (PySem.W.fnOf "_law_source" "_law_source" (defArgs s_l_source) (defBody s_l_source) (defScope s_l_source) .none kV3 dc3 pm3 an3 cd3 ct3), sl3⟩) (c3 : PySem.W.codeIn K cd3 "_law_source" = true) (k3 : PySem.W.keepIn K (.ref f3) = true)
    (a4 : PySem.W.nsIn K mainGlobals "_law_choice" = some (some (.ref f4))) (l4 : K.lookup f4 = some ⟨oc4, od4, .func (PySem.W.fnOf "_law_choice" "_law_choice" (defArgs s_l_choice) (defBody s_l_choice) (defScope s_l_choice) .none kV4 dc4 pm4 an4 cd4 ct4), sl4⟩) (c4 : PySem.W.codeIn K cd4 "_law_choice" = true) (k4 : PySem.W.keepIn K (.ref f4) = true)
    (a5 : PySem.W.nsIn K mainGlobals "_law_is_word" = some (some (.ref f5))) (l5 : K.lookup f5 = some ⟨oc5, od5, .func (PySem.W.fnOf "_law_is_word" "_law_is_word" (defArgs s_l_is_word) (defBody s_l_is_word) (defScope s_l_is_word) .none kV5 dc5 pm5 an5 cd5 ct5), sl5⟩) (c5 : PySem.W.codeIn K cd5 "_law_is_word" = true) (k5 : PySem.W.keepIn K (.ref f5) = true)
    (a6 : PySem.W.nsIn K mainGlobals "is_name" = some (some (.ref f6))) (l6 : K.lookup f6 = some ⟨oc6, od6, .func (PySem.W.fnOf "is_name" "is_name" (defArgs s_is_name) (defBody s_is_name) (defScope s_is_name) .none kV6 dc6 pm6 an6 cd6 ct6), sl6⟩) (c6 : PySem.W.codeIn K cd6 "is_name" = true) (k6 : PySem.W.keepIn K (.ref f6) = true)
    (a7 : PySem.W.nsIn K mainGlobals "is_mark" = some (some (.ref f7))) (l7 : K.lookup f7 = some ⟨oc7, od7, .func (PySem.W.fnOf "is_mark" "is_mark" (defArgs s_is_mark) (defBody s_is_mark) (defScope s_is_mark) .none kV7 dc7 pm7 an7 cd7 ct7), sl7⟩) (c7 : PySem.W.codeIn K cd7 "is_mark" = true) (k7 : PySem.W.keepIn K (.ref f7) = true)
    (a8 : PySem.W.nsIn K mainGlobals "_law_one_of" = some (some (.ref f8))) (l8 : K.lookup f8 = some ⟨oc8, od8, .func (PySem.W.fnOf "_law_one_of" "_law_one_of" (defArgs s_l_one_of) (defBody s_l_one_of) (defScope s_l_one_of) .none kV8 dc8 pm8 an8 cd8 ct8), sl8⟩) (c8 : PySem.W.codeIn K cd8 "_law_one_of" = true) (k8 : PySem.W.keepIn K (.ref f8) = true)
    (a9 : PySem.W.nsIn K mainGlobals "_law_is_place" = some (some (.ref f9))) (l9 : K.lookup f9 = some ⟨oc9, od9, .func (PySem.W.fnOf "_law_is_place" "_law_is_place" (defArgs s_l_is_place) (defBody s_l_is_place) (defScope s_l_is_place) .none kV9 dc9 pm9 an9 cd9 ct9), sl9⟩) (c9 : PySem.W.codeIn K cd9 "_law_is_place" = true) (k9 : PySem.W.keepIn K (.ref f9) = true)
    (a10 : PySem.W.nsIn K mainGlobals "is_place" = some (some (.ref f10))) (l10 : K.lookup f10 = some ⟨oc10, od10, .func (PySem.W.fnOf "is_place" "is_place" (defArgs s_is_place) (defBody s_is_place) (defScope s_is_place) .none kV10 dc10 pm10 an10 cd10 ct10), sl10⟩) (c10 : PySem.W.codeIn K cd10 "is_place" = true) (k10 : PySem.W.keepIn K (.ref f10) = true)
    (a11 : PySem.W.nsIn K mainGlobals "_law_word" = some (some (.ref f11))) (l11 : K.lookup f11 = some ⟨oc11, od11, .func (PySem.W.fnOf "_law_word" "_law_word" (defArgs s_l_word) (defBody s_l_word) (defScope s_l_word) .none kV11 dc11 pm11 an11 cd11 ct11), sl11⟩) (c11 : PySem.W.codeIn K cd11 "_law_word" = true) (k11 : PySem.W.keepIn K (.ref f11) = true)
    (a12 : PySem.W.nsIn K mainGlobals "_law_marks" = some (some (.ref f12))) (l12 : K.lookup f12 = some ⟨oc12, od12, .func (PySem.W.fnOf "_law_marks" "_law_marks" (defArgs s_l_marks) (defBody s_l_marks) (defScope s_l_marks) .none kV12 dc12 pm12 an12 cd12 ct12), sl12⟩) (c12 : PySem.W.codeIn K cd12 "_law_marks" = true) (k12 : PySem.W.keepIn K (.ref f12) = true)
    (a13 : PySem.W.nsIn K mainGlobals "_law_other" = some (some (.ref f13))) (l13 : K.lookup f13 = some ⟨oc13, od13, .func (PySem.W.fnOf "_law_other" "_law_other" (defArgs s_l_other) (defBody s_l_other) (defScope s_l_other) .none kV13 dc13 pm13 an13 cd13 ct13), sl13⟩) (c13 : PySem.W.codeIn K cd13 "_law_other" = true) (k13 : PySem.W.keepIn K (.ref f13) = true)
    (a14 : PySem.W.nsIn K mainGlobals "_law_place" = some (some (.ref f14))) (l14 : K.lookup f14 = some ⟨oc14, od14, .func (PySem.W.fnOf "_law_place" "_law_place" (defArgs s_l_place) (defBody s_l_place) (defScope s_l_place) .none kV14 dc14 pm14 an14 cd14 ct14), sl14⟩) (c14 : PySem.W.codeIn K cd14 "_law_place" = true) (k14 : PySem.W.keepIn K (.ref f14) = true)
    (a15 : PySem.W.nsIn K mainGlobals "_law_right" = some (some (.ref f15))) (l15 : K.lookup f15 = some ⟨oc15, od15, .func (PySem.W.fnOf "_law_right" "_law_right" (defArgs s_l_right) (defBody s_l_right) (defScope s_l_right) .none kV15 dc15 pm15 an15 cd15 ct15), sl15⟩) (c15 : PySem.W.codeIn K cd15 "_law_right" = true) (k15 : PySem.W.keepIn K (.ref f15) = true)
    (a16 : PySem.W.nsIn K mainGlobals "law" = some (some (.ref f16))) (l16 : K.lookup f16 = some ⟨oc16, od16, .func (PySem.W.fnOf "law" "law" (defArgs s_law) (defBody s_law) (defScope s_law) .none kV16 dc16 pm16 an16 cd16 ct16), sl16⟩) (c16 : PySem.W.codeIn K cd16 "law" = true) (k16 : PySem.W.keepIn K (.ref f16) = true)
    (z1 : PySem.W.nsIn K mainGlobals "all" = some none)
    (z2 : PySem.W.nsIn K mainGlobals "isinstance" = some none)
    (z3 : PySem.W.nsIn K mainGlobals "len" = some none)
    (z4 : PySem.W.nsIn K mainGlobals "list" = some none)
    (z5 : PySem.W.nsIn K mainGlobals "range" = some none)
    (z6 : PySem.W.nsIn K mainGlobals "repr" = some none)
    (z7 : PySem.W.nsIn K mainGlobals "sorted" = some none)
    (z8 : PySem.W.nsIn K mainGlobals "str" = some none)
    (z9 : PySem.W.nsIn K mainGlobals "tuple" = some none)
    (z10 : PySem.W.nsIn K mainGlobals "zip" = some none)
    (y1 : PySem.W.nsIn K mainGlobals "LOWER_CASE" = some (some u1)) (w1 : RelV (.str ("abcdefghijklmnopqrstuvwxyz" : Str)) u1)
    (y2 : PySem.W.nsIn K mainGlobals "MOST_LETTERS" = some (some u2)) (w2 : RelV (.int 8) u2)
    (y3 : PySem.W.nsIn K mainGlobals "UPPER_CASE" = some (some u3)) (w3 : RelV (.str ("ABCDEFGHIJKLMNOPQRSTUVWXYZ" : Str)) u3) :
    ∃ fd : FuncData, (∀ (s : Shared) (v : Value), BindsTo s fd ⟨[v], []⟩ [("_law_script", v)]) ∧ ∀ base : Heap, K.In base → base.Ns mainGlobals mg → FnG ⟨l.prog, w, K, mg, base⟩ 5 fa fd ["_law_script"] (spLaw K) := by
  have e := hfa.symm.trans (PySem.W.mg_of X G a16)
  cases e
  have F_is_word := fun_mk (st := s_is_word) l1 c1 k1
  have F_are_rising := fun_mk (st := s_are_rising) l2 c2 k2
  have F_l_source := fun_mk (st := s_l_source) l3 c3 k3
  have F_l_choice := fun_mk (st := s_l_choice) l4 c4 k4
  have F_l_is_word := fun_mk (st := s_l_is_word) l5 c5 k5
  have F_is_name := fun_mk (st := s_is_name) l6 c6 k6
  have F_is_mark := fun_mk (st := s_is_mark) l7 c7 k7
  have F_l_one_of := fun_mk (st := s_l_one_of) l8 c8 k8
  have F_l_is_place := fun_mk (st := s_l_is_place) l9 c9 k9
  have F_is_place := fun_mk (st := s_is_place) l10 c10 k10
  have F_l_word := fun_mk (st := s_l_word) l11 c11 k11
  have F_l_marks := fun_mk (st := s_l_marks) l12 c12 k12
  have F_l_other := fun_mk (st := s_l_other) l13 c13 k13
  have F_l_place := fun_mk (st := s_l_place) l14 c14 k14
  have F_l_right := fun_mk (st := s_l_right) l15 c15 k15
  have F_law := fun_mk (st := s_law) l16 c16 k16
  refine ⟨PySem.W.fnOf "law" "law" (defArgs s_law) (defBody s_law) (defScope s_law) .none kV16 dc16 pm16 an16 cd16 ct16, fun s v => .of_eq rfl, fun base _ _ => ?_⟩
  have h_all : (Cfg.mk l.prog w K mg base).mg "all" = none := PySem.W.mg_none_of X G z1
  have h_isinstance : (Cfg.mk l.prog w K mg base).mg "isinstance" = none := PySem.W.mg_none_of X G z2
  have h_len : (Cfg.mk l.prog w K mg base).mg "len" = none := PySem.W.mg_none_of X G z3
  have h_list : (Cfg.mk l.prog w K mg base).mg "list" = none := PySem.W.mg_none_of X G z4
  have h_range : (Cfg.mk l.prog w K mg base).mg "range" = none := PySem.W.mg_none_of X G z5
  have h_repr : (Cfg.mk l.prog w K mg base).mg "repr" = none := PySem.W.mg_none_of X G z6
  have h_sorted : (Cfg.mk l.prog w K mg base).mg "sorted" = none := PySem.W.mg_none_of X G z7
  have h_str : (Cfg.mk l.prog w K mg base).mg "str" = none := PySem.W.mg_none_of X G z8
  have h_tuple : (Cfg.mk l.prog w K mg base).mg "tuple" = none := PySem.W.mg_none_of X G z9
  have h_zip : (Cfg.mk l.prog w K mg base).mg "zip" = none := PySem.W.mg_none_of X G z10
  have g_LOWER_CASE : (Cfg.mk l.prog w K mg base).mg "LOWER_CASE" = some u1 := PySem.W.mg_of X G y1
  have g_MOST_LETTERS : (Cfg.mk l.prog w K mg base).mg "MOST_LETTERS" = some u2 := PySem.W.mg_of X G y2
  have g_UPPER_CASE : (Cfg.mk l.prog w K mg base).mg "UPPER_CASE" = some u3 := PySem.W.mg_of X G y3
  have O_is_word := ok_is_word (cfg := ⟨l.prog, w, K, mg, base⟩) F_is_word g_MOST_LETTERS w2 h_all h_isinstance h_len h_str
  have D_is_word : FnD ⟨l.prog, w, K, mg, base⟩ 1 "is_word" f1 _ P_is_word 2 c_is_word := ⟨PySem.W.mg_of X G a1, F_is_word.kp, O_is_word, fun os r outs h hl => (callM_len h).trans hl⟩
  have O_are_rising := ok_are_rising (cfg := ⟨l.prog, w, K, mg, base⟩) F_are_rising h_all h_zip
  have D_are_rising : FnD ⟨l.prog, w, K, mg, base⟩ 1 "are_rising" f2 _ P_are_rising 1 c_are_rising := ⟨PySem.W.mg_of X G a2, F_are_rising.kp, O_are_rising, fun os r outs h hl => (callM_len h).trans hl⟩
  have O_l_source := ok_l_source (cfg := ⟨l.prog, w, K, mg, base⟩) F_l_source h_list
  have D_l_source : FnD ⟨l.prog, w, K, mg, base⟩ 1 "_law_source" f3 _ P_l_source 1 c_l_source := ⟨PySem.W.mg_of X G a3, F_l_source.kp, O_l_source, fun os r outs h hl => (callM_len h).trans hl⟩
  have O_l_choice := ok_l_choice (cfg := ⟨l.prog, w, K, mg, base⟩) F_l_choice
  have D_l_choice : FnD ⟨l.prog, w, K, mg, base⟩ 1 "_law_choice" f4 _ P_l_choice 2 c_l_choice := ⟨PySem.W.mg_of X G a4, F_l_choice.kp, O_l_choice, fun os r outs h hl => (callM_len h).trans hl⟩
  have O_l_is_word := ok_l_is_word (cfg := ⟨l.prog, w, K, mg, base⟩) F_l_is_word h_isinstance h_len h_str
  have D_l_is_word : FnD ⟨l.prog, w, K, mg, base⟩ 1 "_law_is_word" f5 _ P_l_is_word 2 c_l_is_word := ⟨PySem.W.mg_of X G a5, F_l_is_word.kp, O_l_is_word, fun os r outs h hl => (callM_len h).trans hl⟩
  have O_is_name := ok_is_name (cfg := ⟨l.prog, w, K, mg, base⟩) F_is_name g_LOWER_CASE w1 F_is_word D_is_word (b_is_word F_is_word)
  have D_is_name : FnD ⟨l.prog, w, K, mg, base⟩ 2 "is_name" f6 _ P_is_name 1 c_is_name := ⟨PySem.W.mg_of X G a6, F_is_name.kp, O_is_name, fun os r outs h hl => (callM_len h).trans hl⟩
  have O_is_mark := ok_is_mark (cfg := ⟨l.prog, w, K, mg, base⟩) F_is_mark g_UPPER_CASE w3 F_is_word D_is_word (b_is_word F_is_word)
  have D_is_mark : FnD ⟨l.prog, w, K, mg, base⟩ 2 "is_mark" f7 _ P_is_mark 1 c_is_mark := ⟨PySem.W.mg_of X G a7, F_is_mark.kp, O_is_mark, fun os r outs h hl => (callM_len h).trans hl⟩
  have O_l_one_of := ok_l_one_of (cfg := ⟨l.prog, w, K, mg, base⟩) F_l_one_of F_l_choice D_l_choice (b_l_choice F_l_choice) h_len
  have D_l_one_of : FnD ⟨l.prog, w, K, mg, base⟩ 2 "_law_one_of" f8 _ P_l_one_of 2 c_l_one_of := ⟨PySem.W.mg_of X G a8, F_l_one_of.kp, O_l_one_of, fun os r outs h hl => (callM_len h).trans hl⟩
  have O_l_is_place := ok_l_is_place (cfg := ⟨l.prog, w, K, mg, base⟩) F_l_is_place F_l_is_word D_l_is_word (b_l_is_word F_l_is_word) h_isinstance h_len h_range h_tuple
  have D_l_is_place : FnD ⟨l.prog, w, K, mg, base⟩ 2 "_law_is_place" f9 _ P_l_is_place 1 c_l_is_place := ⟨PySem.W.mg_of X G a9, F_l_is_place.kp, O_l_is_place, fun os r outs h hl => (callM_len h).trans hl⟩
  have O_is_place := ok_is_place (cfg := ⟨l.prog, w, K, mg, base⟩) F_is_place h_all F_are_rising D_are_rising (b_are_rising F_are_rising) F_is_mark D_is_mark (b_is_mark F_is_mark) h_isinstance h_tuple
  have D_is_place : FnD ⟨l.prog, w, K, mg, base⟩ 3 "is_place" f10 _ P_is_place 1 c_is_place := ⟨PySem.W.mg_of X G a10, F_is_place.kp, O_is_place, fun os r outs h hl => (callM_len h).trans hl⟩
  have O_l_word := ok_l_word (cfg := ⟨l.prog, w, K, mg, base⟩) F_l_word F_l_choice D_l_choice (b_l_choice F_l_choice) F_l_one_of D_l_one_of (b_l_one_of F_l_one_of) h_list h_range
  have D_l_word : FnD ⟨l.prog, w, K, mg, base⟩ 3 "_law_word" f11 _ P_l_word 1 c_l_word := ⟨PySem.W.mg_of X G a11, F_l_word.kp, O_l_word, fun os r outs h hl => (callM_len h).trans hl⟩
  have O_l_marks := ok_l_marks (cfg := ⟨l.prog, w, K, mg, base⟩) F_l_marks F_l_choice D_l_choice (b_l_choice F_l_choice) F_l_one_of D_l_one_of (b_l_one_of F_l_one_of) h_len h_range h_sorted
  have D_l_marks : FnD ⟨l.prog, w, K, mg, base⟩ 3 "_law_marks" f12 _ P_l_marks 1 c_l_marks := ⟨PySem.W.mg_of X G a12, F_l_marks.kp, O_l_marks, fun os r outs h hl => (callM_len h).trans hl⟩
  have O_l_other := ok_l_other (cfg := ⟨l.prog, w, K, mg, base⟩) F_l_other F_l_one_of D_l_one_of (b_l_one_of F_l_one_of) h_str
  have D_l_other : FnD ⟨l.prog, w, K, mg, base⟩ 3 "_law_other" f13 _ P_l_other 2 c_l_other := ⟨PySem.W.mg_of X G a13, F_l_other.kp, O_l_other, fun os r outs h hl => (callM_len h).trans hl⟩
  have O_l_place := ok_l_place (cfg := ⟨l.prog, w, K, mg, base⟩) F_l_place F_l_choice D_l_choice (b_l_choice F_l_choice) F_l_marks D_l_marks (b_l_marks F_l_marks) F_l_other D_l_other (b_l_other F_l_other) F_l_word D_l_word (b_l_word F_l_word) h_len h_tuple
  have D_l_place : FnD ⟨l.prog, w, K, mg, base⟩ 4 "_law_place" f14 _ P_l_place 1 c_l_place := ⟨PySem.W.mg_of X G a14, F_l_place.kp, O_l_place, fun os r outs h hl => (callM_len h).trans hl⟩
  have O_l_right := ok_l_right (cfg := ⟨l.prog, w, K, mg, base⟩) F_l_right F_l_is_place D_l_is_place (b_l_is_place F_l_is_place) F_l_is_word D_l_is_word (b_l_is_word F_l_is_word) F_is_mark D_is_mark (b_is_mark F_is_mark) F_is_name D_is_name (b_is_name F_is_name) F_is_place D_is_place (b_is_place F_is_place) h_repr
  have D_l_right : FnD ⟨l.prog, w, K, mg, base⟩ 4 "_law_right" f15 _ P_l_right 1 c_l_right := ⟨PySem.W.mg_of X G a15, F_l_right.kp, O_l_right, fun os r outs h hl => (callM_len h).trans hl⟩
  have O_law := ok_law (cfg := ⟨l.prog, w, K, mg, base⟩) F_law F_l_place D_l_place (b_l_place F_l_place) F_l_right D_l_right (b_l_right F_l_right) F_l_source D_l_source (b_l_source F_l_source) F_l_word D_l_word (b_l_word F_l_word) h_range
  exact O_law.weak (sp_law)
end K02
open PySem PySem.W PyProof.Rows
set_option maxHeartbeats 0 in
theorem PySem.Challenge.cw_blendmarks_k02_names_marks_places_of_any_holds : PySem.Challenge.rw_blendmarks_k02_names_marks_places_of_any.Holds := by
  w_on; o_law; k_head; (case hw => w_witness2)
  k_fill
  refine BM.walkG (l := PySem.Challenge.rw_blendmarks_k02_names_marks_places_of_any) (n := 63) (k := 5) (x := "_law_script") (sp := fun w => K02.spLaw _) rfl (by decide) rfl ⟨rfl, by decide, by decide⟩ (fun w h Y => PySem.W.kIn_of Y) ?F (fun _ _ a ns hl _ hS => ⟨a, ns, rfl, hS, hl, fun _ => rfl⟩)
  case F =>
    intro w mg fa h KX G hmg
    refine' K02.all_mk KX G hmg ?a1 ?l1 ?c1 ?k1 ?a2 ?l2 ?c2 ?k2 ?a3 ?l3 ?c3 ?k3 ?a4 ?l4 ?c4 ?k4 ?a5 ?l5 ?c5 ?k5 ?a6 ?l6 ?c6 ?k6 ?a7 ?l7 ?c7 ?k7 ?a8 ?l8 ?c8 ?k8 ?a9 ?l9 ?c9 ?k9 ?a10 ?l10 ?c10 ?k10 ?a11 ?l11 ?c11 ?k11 ?a12 ?l12 ?c12 ?k12 ?a13 ?l13 ?c13 ?k13 ?a14 ?l14 ?c14 ?k14 ?a15 ?l15 ?c15 ?k15 ?a16 ?l16 ?c16 ?k16 ?z1 ?z2 ?z3 ?z4 ?z5 ?z6 ?z7 ?z8 ?z9 ?z10 ?y1 ?w1 ?y2 ?w2 ?y3 ?w3
    (case a1 => k_is); (case l1 => k_is); (case c1 => k_is); (case k1 => k_is); (case a2 => k_is); (case l2 => k_is); (case c2 => k_is); (case k2 => k_is); (case a3 => k_is); (case l3 => k_is); (case c3 => k_is); (case k3 => k_is); (case a4 => k_is); (case l4 => k_is); (case c4 => k_is); (case k4 => k_is); (case a5 => k_is); (case l5 => k_is); (case c5 => k_is); (case k5 => k_is); (case a6 => k_is); (case l6 => k_is); (case c6 => k_is); (case k6 => k_is); (case a7 => k_is); (case l7 => k_is); (case c7 => k_is); (case k7 => k_is); (case a8 => k_is); (case l8 => k_is); (case c8 => k_is); (case k8 => k_is); (case a9 => k_is); (case l9 => k_is); (case c9 => k_is); (case k9 => k_is); (case a10 => k_is); (case l10 => k_is); (case c10 => k_is); (case k10 => k_is); (case a11 => k_is); (case l11 => k_is); (case c11 => k_is); (case k11 => k_is); (case a12 => k_is); (case l12 => k_is); (case c12 => k_is); (case k12 => k_is); (case a13 => k_is); (case l13 => k_is); (case c13 => k_is); (case k13 => k_is); (case a14 => k_is); (case l14 => k_is); (case c14 => k_is); (case k14 => k_is); (case a15 => k_is); (case l15 => k_is); (case c15 => k_is); (case k15 => k_is); (case a16 => k_is); (case l16 => k_is); (case c16 => k_is); (case k16 => k_is); (case z1 => k_is); (case z2 => k_is); (case z3 => k_is); (case z4 => k_is); (case z5 => k_is); (case z6 => k_is); (case z7 => k_is); (case z8 => k_is); (case z9 => k_is); (case z10 => k_is); (case y1 => k_is); (case w1 => exact ⟨_, rfl⟩); (case y2 => k_is); (case w2 => exact ⟨_, rfl⟩); (case y3 => k_is); (case w3 => exact ⟨_, rfl⟩)

