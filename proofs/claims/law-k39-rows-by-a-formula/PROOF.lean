import PyProof.Rows.All
import Wide.All
import OpenK.AllK
import Wide.FinOn
import HandS.ForMost
import HandS.Lambda
import HandS.Walk
import HandS.Flow
import HandS.Style
import HandS.TupAny
import HandS.TupMul
import HandS.Deep
import HandS.Defaults
import HandS.Conv
import KE.KUnpackStar
import HandS.NoneIn
import PyProof.P3In
import KE.SortData
import PyProof.Rows.NestShow
import HandS.RaiseMore
import HandS.SetFor
import HandS.Strs
import PyProof.StrLawsRepr
import PyProof.ReprLen
import HandS.Iter
import HandS.SetKeys
import PyProof.EnumMake
import PyProof.Draws
import KE.GoesMore
import HandS.Rev
import PyProof.StrOps2
import PyProof.Rows.RegStrFacts
import PyProof.Rows.StrJoinMade
import HandS.IsInst
import PyProof.Rows.IntBool
import HandS.Text
import PyProof.Rows.ReprOcc
import KE.KRevSl
import KE.GoesEnumKw
import PyProof.Rows.CallKwBuiltin
import HandS.Zip
import HandS.Zip0
import PyProof.ListStr
import PyProof.ReprRoads
import PyProof.NeKinds
import HandS.Property
import HandS.ListItems
import KE.KDictZip
import HandS.Codes
import HandS.SetBool
import HandS.TupSets
import KE.KSortTupG
import KE.LtData
import HandS.More
import HandS.GenOver
import PyProof.GenRules
import PyProof.GenQ
import HandS.Ends
import PyProof.ForAny
import HandS.GenCall
import HandS.GenList
import KE.GoesNew
import KE.SortKeyHeap
import KE.KSortKey
import HandS.MapJoin
import KE.DataMinKey
import HandS.EndTab
import KE.KNestM
import PyProof.Rows.MatchSeqLen
import KE.KDictPairs
import PyProof.SumWalkG
import PyProof.Rows.SeqMore
import HandS.MakeKwOnly
import HandS.Exc
import HandS.WordsExc
import HandS.ExcInit
import HandS.ExcField
import HandS.ClsMeth
import KE.KExcIs
import KE.DataEq
import PyProof.EqKinds
import KE.DataCmp
import HandS.Star
import PySem.Challenge.RW_blendmarks_k39_rows_by_a_formula
set_option Elab.async false
set_option linter.all false
set_option maxRecDepth 100000
set_option maxHeartbeats 4000000
namespace BM
open PySem PySem.Spec PyProof.Rows L2
/-- plain data, as a tree -/
inductive D where
  | non | bl (b : Bool) | int (i : Int) | str (x : Str)
  | tup (xs : List D) | lst (xs : List D) | dct (kvs : List (D × D)) | obj (C : Addr) (ns : List Str) (xs : List D)
  deriving Inhabited
/-- owned data: what may still be changed -/
inductive O where
  | d (x : D) | lst (xs : List O) | dct (ks : List D) (vs : List O) | obj (C : Addr) (ns : List Str) (xs : List O)
  deriving Inhabited
mutual
def O.toD : O → D
  | .d x => x
  | .lst xs => .lst (O.toDs xs)
  | .dct ks vs => .dct (ks.zip (O.toDs vs))
  | .obj C ns xs => .obj C ns (O.toDs xs)
def O.toDs : List O → List D
  | [] => []
  | x :: r => O.toD x :: O.toDs r
end
def keyD : Key → D
  | .inl i => .int i
  | .inr x => .str x
abbrev leaf (l : List D) : List O := l.map O.d
theorem toDs_leaf : ∀ l : List D, O.toDs (leaf l) = l
  | [] => rfl
  | x :: r => by
    show O.toD (.d x) :: O.toDs (leaf r) = _
    rw [toDs_leaf r]; rfl
section
variable (K : PySem.W.Frag)
mutual
/-- v stands for the tree, in what is frozen -/
def Rep (G : Hp) : D → V → Prop
  | .non, v => v = .non
  | .bl b, v => v = .bl b
  | .int i, v => v = .int i
  | .str x, v => v = .str x
  | .tup ds, v => ∃ a vs, v = .ref a ∧ SqT K G a vs ∧ Reps G ds vs
  | .lst ds, v => ∃ a vs, v = .ref a ∧ SqL K G a vs ∧ Reps G ds vs
  | .dct l, v => ∃ a kvs, v = .ref a ∧ Rd G a (.dK kvs) ∧ RepKs G l kvs
  | .obj C ns ds, v => ∃ a dx vs, v = .ref a ∧ G a = some (.ins C dx (ns.zip vs)) ∧ G dx = some (.own a) ∧ ns.length = vs.length ∧ Reps G ds vs
def Reps (G : Hp) : List D → List V → Prop
  | [], vs => vs = []
  | d :: ds, vs => ∃ v r, vs = v :: r ∧ Rep G d v ∧ Reps G ds r
def RepKs (G : Hp) : List (D × D) → List (Key × V) → Prop
  | [], vs => vs = []
  | (k, d) :: ds, vs => ∃ k' v r, vs = (k', v) :: r ∧ k = keyD k' ∧ Rep G d v ∧ RepKs G ds r
end
end
theorem Same.rd {G H : Hp} (e : Same G H) {a : Addr} {u : HO} (h : Rd G a u) : Rd H a u := by
  rcases h with h | ⟨o, h⟩
  · exact .inl (e _ _ h)
  · exact .inr ⟨o, e _ _ h⟩
theorem Same.seqT {K : PySem.W.Frag} {G H : Hp} (e : Same G H) {a : Addr} {xs : List V} (h : SqT K G a xs) : SqT K H a xs := by
  rcases h with h | h
  · exact .inl (Same.rd e h)
  · exact .inr h
section
variable {K : PySem.W.Frag} {G H : Hp}
mutual
theorem Rep.mono (e : Same G H) : ∀ {d : D} {v : V}, Rep K G d v → Rep K H d v
  | .non, _, h => h
  | .bl _, _, h => h
  | .int _, _, h => h
  | .str _, _, h => h
  | .tup ds, _, h => by
    rw [Rep] at h ⊢
    obtain ⟨a, vs, h1, h2, h3⟩ := h
    exact ⟨a, vs, h1, Same.seqT e h2, Reps.mono e h3⟩
  | .lst ds, _, h => by
    rw [Rep] at h ⊢
    obtain ⟨a, vs, h1, h2, h3⟩ := h
    exact ⟨a, vs, h1, Same.seq e h2, Reps.mono e h3⟩
  | .dct l, _, h => by
    rw [Rep] at h ⊢
    obtain ⟨a, vs, h1, h2, h3⟩ := h
    exact ⟨a, vs, h1, Same.rd e h2, RepKs.mono e h3⟩
  | .obj C ns ds, _, h => by
    rw [Rep] at h ⊢
    obtain ⟨a, dx, vs, h1, h2, h3, h4, h5⟩ := h
    exact ⟨a, dx, vs, h1, e _ _ h2, e _ _ h3, h4, Reps.mono e h5⟩
theorem Reps.mono (e : Same G H) : ∀ {ds : List D} {vs : List V}, Reps K G ds vs → Reps K H ds vs
  | [], _, h => by rw [Reps] at h ⊢; exact h
  | d :: ds, _, h => by
    rw [Reps] at h ⊢
    obtain ⟨v, r, h1, h2, h3⟩ := h
    exact ⟨v, r, h1, Rep.mono e h2, Reps.mono e h3⟩
theorem RepKs.mono (e : Same G H) : ∀ {l : List (D × D)} {kvs : List (Key × V)}, RepKs K G l kvs → RepKs K H l kvs
  | [], _, h => by rw [RepKs] at h ⊢; exact h
  | (k, d) :: ds, _, h => by
    rw [RepKs] at h ⊢
    obtain ⟨k', v, r, h1, h2, h3, h4⟩ := h
    exact ⟨k', v, r, h1, h2, Rep.mono e h3, RepKs.mono e h4⟩
end
theorem Reps.length : ∀ {ds : List D} {vs : List V}, Reps K G ds vs → ds.length = vs.length
  | [], _, h => by rw [Reps] at h; subst h; rfl
  | d :: ds, _, h => by
    rw [Reps] at h
    obtain ⟨v, r, h1, _, h3⟩ := h
    subst h1
    rw [List.length_cons, List.length_cons, Reps.length h3]
end
section
variable (K : PySem.W.Frag) (G H : Hp)
mutual
def Own : O → V → List Addr → Prop
  | .d x, v, fp => fp = [] ∧ Rep K G x v
  | .lst os, v, fp => ∃ a vs fq, v = .ref a ∧ fp = a :: fq ∧ H a = some (.lst vs) ∧ Owns os vs fq
  | .dct ks os, v, fp => ∃ a kvs fq, v = .ref a ∧ fp = a :: fq ∧ H a = some (.dK kvs) ∧ ks = kvs.map (fun p => keyD p.1) ∧ Owns os (kvs.map (·.2)) fq
  | .obj C ns os, v, fp => ∃ a dx vs fq, v = .ref a ∧ fp = a :: dx :: fq ∧ H a = some (.ins C dx (ns.zip vs)) ∧ H dx = some (.own a) ∧ ns.length = vs.length ∧ Owns os vs fq
def Owns : List O → List V → List Addr → Prop
  | [], vs, fp => vs = [] ∧ fp = []
  | o :: os, vs, fp => ∃ v r f1 f2, vs = v :: r ∧ fp = f1 ++ f2 ∧ Own o v f1 ∧ Owns os r f2
end
end
section
variable {K : PySem.W.Frag} {G G' H H' : Hp}
mutual
theorem Own.frame (e : Same G G') : ∀ {o : O} {v : V} {fp : List Addr}, Own K G H o v fp → (∀ a ∈ fp, H' a = H a) → Own K G' H' o v fp
  | .d x, v, fp, h, k => by
    rw [Own] at h ⊢
    exact ⟨h.1, Rep.mono e h.2⟩
  | .lst os, v, fp, h, k => by
    rw [Own] at h ⊢
    obtain ⟨a, vs, fq, h1, h2, h3, h4⟩ := h
    subst h2
    exact ⟨a, vs, fq, h1, rfl, by rw [k a List.mem_cons_self]; exact h3, Owns.frame e h4 fun b hb => k b (List.mem_cons_of_mem _ hb)⟩
  | .dct ks os, v, fp, h, k => by
    rw [Own] at h ⊢
    obtain ⟨a, vs, fq, h1, h2, h3, h4, h5⟩ := h
    subst h2
    exact ⟨a, vs, fq, h1, rfl, by rw [k a List.mem_cons_self]; exact h3, h4, Owns.frame e h5 fun b hb => k b (List.mem_cons_of_mem _ hb)⟩
  | .obj C ns os, v, fp, h, k => by
    rw [Own] at h ⊢
    obtain ⟨a, dx, vs, fq, h1, h2, h3, h4, h5, h6⟩ := h
    subst h2
    exact ⟨a, dx, vs, fq, h1, rfl, by rw [k a List.mem_cons_self]; exact h3, by rw [k dx (List.mem_cons_of_mem _ List.mem_cons_self)]; exact h4, h5, Owns.frame e h6 fun b hb => k b (List.mem_cons_of_mem _ (List.mem_cons_of_mem _ hb))⟩
theorem Owns.frame (e : Same G G') : ∀ {os : List O} {vs : List V} {fp : List Addr}, Owns K G H os vs fp → (∀ a ∈ fp, H' a = H a) → Owns K G' H' os vs fp
  | [], _, _, h, k => by rw [Owns] at h ⊢; exact h
  | o :: os, _, _, h, k => by
    rw [Owns] at h ⊢
    obtain ⟨v, r, f1, f2, h1, h2, h3, h4⟩ := h
    subst h2
    exact ⟨v, r, f1, f2, h1, rfl, Own.frame e h3 fun b hb => k b (List.mem_append_left _ hb), Owns.frame e h4 fun b hb => k b (List.mem_append_right _ hb)⟩
end
/-- G with what H has at the addresses -/
def addG (G H : Hp) (fp : List Addr) : Hp := fun a => if a ∈ fp then H a else G a
theorem addG_same {fp : List Addr} (h : ∀ a ∈ fp, G a = none) : Same G (addG G H fp) := fun b o e => by
  unfold addG
  rw [if_neg fun hb => by rw [h b hb] at e; cases e]
  exact e
theorem addG_sub {fp fq : List Addr} (hs : ∀ a ∈ fp, a ∈ fq) (h : ∀ a ∈ fq, G a = none) : Same (addG G H fp) (addG G H fq) := fun b o e => by
  unfold addG at e ⊢
  by_cases hb : b ∈ fp
  · rw [if_pos hb] at e
    rw [if_pos (hs b hb)]; exact e
  · rw [if_neg hb] at e
    rw [if_neg fun hq => by rw [h b hq] at e; cases e]
    exact e
theorem Owns.length : ∀ {os : List O} {vs : List V} {fp : List Addr}, Owns K G H os vs fp → os.length = vs.length
  | [], _, _, h => by rw [Owns] at h; rw [h.1]; rfl
  | o :: os, _, _, h => by
    rw [Owns] at h
    obtain ⟨v, r, f1, f2, h1, h2, h3, h4⟩ := h
    subst h1
    rw [List.length_cons, List.length_cons, Owns.length h4]
theorem repKs_of : ∀ {ds : List D} {kvs : List (Key × V)}, Reps K G ds (kvs.map (·.2)) → RepKs K G ((kvs.map fun p => keyD p.1).zip ds) kvs
  | [], kvs, h => by
    rw [Reps] at h
    have e : kvs = [] := List.map_eq_nil_iff.mp h
    subst e
    show RepKs K G [] []
    rw [RepKs]
  | d :: ds, kvs, h => by
    rw [Reps] at h
    obtain ⟨v, r, h1, h2, h3⟩ := h
    cases kvs with
    | nil => cases h1
    | cons p kvs =>
      injection h1 with e1 e2
      subst e2
      show RepKs K G ((keyD p.1, d) :: (kvs.map fun p => keyD p.1).zip ds) (p :: kvs)
      rw [RepKs]
      exact ⟨p.1, v, kvs, by rw [← e1], rfl, h2, repKs_of h3⟩
mutual
/-- what is owned may be frozen -/
theorem Own.freeze : ∀ {o : O} {v : V} {fp : List Addr}, Own K G H o v fp → (∀ a ∈ fp, G a = none) → Rep K (addG G H fp) o.toD v
  | .d x, v, fp, h, k => by
    rw [Own] at h
    rw [O.toD]
    exact Rep.mono (addG_same k) h.2
  | .lst os, v, fp, h, k => by
    rw [Own] at h
    obtain ⟨a, vs, fq, h1, h2, h3, h4⟩ := h
    subst h2
    rw [O.toD, Rep]
    refine ⟨a, vs, h1, .inl (.inl ?_), ?_⟩
    · unfold addG; rw [if_pos List.mem_cons_self]; exact h3
    · exact Reps.mono (addG_sub (fun b hb => List.mem_cons_of_mem _ hb) k) (Owns.freeze h4 fun b hb => k b (List.mem_cons_of_mem _ hb))
  | .dct ks os, v, fp, h, k => by
    rw [Own] at h
    obtain ⟨a, kvs, fq, h1, h2, h3, h4, h5⟩ := h
    subst h2 h4
    rw [O.toD, Rep]
    refine ⟨a, kvs, h1, .inl ?_, ?_⟩
    · unfold addG; rw [if_pos List.mem_cons_self]; exact h3
    · exact repKs_of (Reps.mono (addG_sub (fun b hb => List.mem_cons_of_mem _ hb) k) (Owns.freeze h5 fun b hb => k b (List.mem_cons_of_mem _ hb)))
  | .obj C ns os, v, fp, h, k => by
    rw [Own] at h
    obtain ⟨a, dx, vs, fq, h1, h2, h3, h4, h5, h6⟩ := h
    subst h2
    rw [O.toD, Rep]
    refine ⟨a, dx, vs, h1, ?_, ?_, h5, ?_⟩
    · unfold addG; rw [if_pos List.mem_cons_self]; exact h3
    · unfold addG; rw [if_pos (List.mem_cons_of_mem _ List.mem_cons_self)]; exact h4
    · exact Reps.mono (addG_sub (fun b hb => List.mem_cons_of_mem _ (List.mem_cons_of_mem _ hb)) k) (Owns.freeze h6 fun b hb => k b (List.mem_cons_of_mem _ (List.mem_cons_of_mem _ hb)))
theorem Owns.freeze : ∀ {os : List O} {vs : List V} {fp : List Addr}, Owns K G H os vs fp → (∀ a ∈ fp, G a = none) → Reps K (addG G H fp) (O.toDs os) vs
  | [], _, _, h, k => by
    rw [Owns] at h
    rw [O.toDs, Reps]
    exact h.1
  | o :: os, _, _, h, k => by
    rw [Owns] at h
    obtain ⟨v, r, f1, f2, h1, h2, h3, h4⟩ := h
    subst h2
    rw [O.toDs, Reps]
    exact ⟨v, r, h1, Rep.mono (addG_sub (fun b hb => List.mem_append_left _ hb) k) (Own.freeze h3 fun b hb => k b (List.mem_append_left _ hb)),
      Reps.mono (addG_sub (fun b hb => List.mem_append_right _ hb) k) (Owns.freeze h4 fun b hb => k b (List.mem_append_right _ hb))⟩
end
end
inductive It where
  | rep (o : O) (v : V) | raw (a : Addr) (u : HO) | pin (a : Addr) (o : Obj) (u : HO) | tab (P : Addr) (q : Str)
/-- the tables of the code objects that make lambdas, with the lambdas' names -/
class Tb where
  tb : List (Addr × Str)
instance (priority := low) : Tb := ⟨[]⟩
def tbs [Tb] : List It := Tb.tb.map fun p => .tab p.1 p.2
variable [Tb]
section
variable (K : PySem.W.Frag)
def Itm (G H : Hp) : It → List Addr → Prop
  | .rep o v, fp => Own K G H o v fp
  | .raw a u, fp => fp = [a] ∧ H a = some u
  | .pin a o u, fp => fp = [] ∧ G a = some (.frz o u)
  | .tab P q, fp => fp = [P] ∧ ∃ ps : Array Value, H P = some (.tbl ps) ∧ TriplesOk ps.toList ∧ ∀ (pos : Pos) (cv : Value), codeAmong pos ps.toList = some cv → ∃ c, cv = .ref c ∧ G c = some (LamX.CodeO c q)
def Sep (G H : Hp) : List It → List Addr → Prop
  | [], fp => fp = []
  | x :: L, fp => ∃ f1 f2, fp = f1 ++ f2 ∧ Itm K G H x f1 ∧ Sep G H L f2
/-- the items are held in H, apart from one another -/
def St (H : Hp) (L : List It) : Prop := ∃ G fp, Same G H ∧ Sep K G H (L ++ tbs) fp ∧ fp.Nodup ∧ ∀ a ∈ fp, G a = none
/-- items of values -/
def reps : List O → List V → List It
  | o :: os, v :: vs => .rep o v :: reps os vs
  | _, _ => []
end
section
variable {K : PySem.W.Frag} {G G' H H' : Hp} {L L' : List It} {x y : It}
theorem Itm.frame (e : Same G G') {fp : List Addr} (h : Itm K G H x fp) (k : ∀ a ∈ fp, H' a = H a) : Itm K G' H' x fp := by
  cases x with
  | rep o v => exact Own.frame e h k
  | raw a u =>
    obtain ⟨h1, h2⟩ := h
    subst h1
    exact ⟨rfl, by rw [k a List.mem_cons_self]; exact h2⟩
  | pin a o u => exact ⟨h.1, e _ _ h.2⟩
  | tab P q =>
    obtain ⟨h1, ps, h2, h3, h4⟩ := h
    subst h1
    refine ⟨rfl, ps, by rw [k P List.mem_cons_self]; exact h2, h3, fun pos cv hc => ?_⟩
    obtain ⟨c, e1, e2⟩ := h4 pos cv hc
    exact ⟨c, e1, e _ _ e2⟩
theorem Itm.there {fp : List Addr} (h : Itm K G H x fp) : ∀ a ∈ fp, H a ≠ none := by
  have key : (∀ (o : O) (v : V) (fp : List Addr), Own K G H o v fp → ∀ a ∈ fp, H a ≠ none) := by
    intro o
    apply O.rec (motive_1 := fun o => ∀ (v : V) (fp : List Addr), Own K G H o v fp → ∀ a ∈ fp, H a ≠ none)
      (motive_2 := fun os => ∀ (vs : List V) (fp : List Addr), Owns K G H os vs fp → ∀ a ∈ fp, H a ≠ none)
    · intro x v fp h a ha
      rw [Own] at h; rw [h.1] at ha; cases ha
    · intro os ih v fp h a ha
      rw [Own] at h
      obtain ⟨b, vs, fq, h1, h2, h3, h4⟩ := h
      subst h2
      rcases List.mem_cons.mp ha with rfl | ha
      · rw [h3]; intro z; cases z
      · exact ih _ _ h4 a ha
    · intro ks os ih v fp h a ha
      rw [Own] at h
      obtain ⟨b, vs, fq, h1, h2, h3, h4, h5⟩ := h
      subst h2
      rcases List.mem_cons.mp ha with rfl | ha
      · rw [h3]; intro z; cases z
      · exact ih _ _ h5 a ha
    · intro C ns os ih v fp h a ha
      rw [Own] at h
      obtain ⟨b, dx, vs, fq, h1, h2, h3, h4, h5, h6⟩ := h
      subst h2
      rcases List.mem_cons.mp ha with rfl | ha
      · rw [h3]; intro z; cases z
      · rcases List.mem_cons.mp ha with rfl | ha
        · rw [h4]; intro z; cases z
        · exact ih _ _ h6 a ha
    · intro vs fp h a ha
      rw [Owns] at h; rw [h.2] at ha; cases ha
    · intro o os i1 i2 vs fp h a ha
      rw [Owns] at h
      obtain ⟨v, r, f1, f2, h1, h2, h3, h4⟩ := h
      subst h2
      rcases List.mem_append.mp ha with ha | ha
      · exact i1 _ _ h3 a ha
      · exact i2 _ _ h4 a ha
  cases x with
  | rep o v => exact key o v fp h
  | raw a u =>
    obtain ⟨h1, h2⟩ := h
    subst h1
    intro b hb
    rw [List.mem_singleton.mp hb, h2]; intro z; cases z
  | pin a o u =>
    intro b hb
    rw [h.1] at hb; cases hb
  | tab P q =>
    obtain ⟨h1, ps, h2, _⟩ := h
    subst h1
    intro b hb
    rw [List.mem_singleton.mp hb, h2]; intro z; cases z
theorem Sep.frame (e : Same G G') : ∀ {L : List It} {fp : List Addr}, Sep K G H L fp → (∀ a ∈ fp, H' a = H a) → Sep K G' H' L fp
  | [], _, h, _ => h
  | x :: L, _, h, k => by
    obtain ⟨f1, f2, h1, h2, h3⟩ := h
    subst h1
    exact ⟨f1, f2, rfl, Itm.frame e h2 fun a ha => k a (List.mem_append_left _ ha), Sep.frame e h3 fun a ha => k a (List.mem_append_right _ ha)⟩
theorem Sep.there : ∀ {L : List It} {fp : List Addr}, Sep K G H L fp → ∀ a ∈ fp, H a ≠ none
  | [], fp, h, a, ha => by
    have h' : fp = [] := h
    rw [h'] at ha; cases ha
  | x :: L, _, h, a, ha => by
    obtain ⟨f1, f2, h1, h2, h3⟩ := h
    subst h1
    rcases List.mem_append.mp ha with ha | ha
    · exact Itm.there h2 a ha
    · exact Sep.there h3 a ha
theorem Sep.app : ∀ {L L' : List It} {fp fq : List Addr}, Sep K G H L fp → Sep K G H L' fq → Sep K G H (L ++ L') (fp ++ fq)
  | [], _, _, _, h, h' => by
    have e := h
    unfold Sep at e
    subst e
    exact h'
  | x :: L, _, _, _, h, h' => by
    obtain ⟨f1, f2, h1, h2, h3⟩ := h
    subst h1
    exact ⟨f1, _, (List.append_assoc ..), h2, Sep.app h3 h'⟩
theorem Sep.split : ∀ {L L' : List It} {fp : List Addr}, Sep K G H (L ++ L') fp → ∃ f1 f2, fp = f1 ++ f2 ∧ Sep K G H L f1 ∧ Sep K G H L' f2
  | [], _, fp, h => ⟨[], fp, rfl, rfl, h⟩
  | x :: L, _, _, h => by
    obtain ⟨f1, f2, h1, h2, h3⟩ := h
    obtain ⟨g1, g2, e, q1, q2⟩ := Sep.split h3
    subst e h1
    exact ⟨f1 ++ g1, g2, (List.append_assoc ..).symm, ⟨f1, g1, rfl, h2, q1⟩, q2⟩
theorem Sep.appT {L L' T : List It} {fp fq : List Addr} (h : Sep K G H L fp) (h' : Sep K G H (L' ++ T) fq) : Sep K G H ((L ++ L') ++ T) (fp ++ fq) := by
  rw [List.append_assoc]
  exact Sep.app h h'
theorem Sep.splitT {L L' T : List It} {fp : List Addr} (h : Sep K G H ((L ++ L') ++ T) fp) : ∃ f1 f2, fp = f1 ++ f2 ∧ Sep K G H L f1 ∧ Sep K G H (L' ++ T) f2 := by
  rw [List.append_assoc] at h
  exact Sep.split h
theorem Sep.perm (p : L.Perm L') : ∀ {fp : List Addr}, Sep K G H L fp → ∃ fq, fq.Perm fp ∧ Sep K G H L' fq := by
  induction p with
  | nil => intro fp h; exact ⟨fp, .refl _, h⟩
  | cons x _ ih =>
    intro fp h
    obtain ⟨f1, f2, h1, h2, h3⟩ := h
    obtain ⟨fq, q1, q2⟩ := ih h3
    exact ⟨f1 ++ fq, by rw [h1]; exact q1.append_left f1, f1, fq, rfl, h2, q2⟩
  | swap x y l =>
    intro fp h
    obtain ⟨f1, f2, h1, h2, g1, g2, e1, e2, e3⟩ := h
    refine ⟨g1 ++ (f1 ++ g2), ?_, g1, f1 ++ g2, rfl, e2, f1, g2, rfl, h2, e3⟩
    rw [h1, e1, ← List.append_assoc, ← List.append_assoc]
    exact (List.perm_append_comm).append_right g2
  | trans _ _ i1 i2 =>
    intro fp h
    obtain ⟨f1, p1, h1⟩ := i1 h
    obtain ⟨f2, p2, h2⟩ := i2 h1
    exact ⟨f2, p2.trans p1, h2⟩
theorem St.perm (p : L.Perm L') (h : St K H L) : St K H L' := by
  obtain ⟨G, fp, s, h1, nd, hg⟩ := h
  obtain ⟨fq, q, h2⟩ := Sep.perm (p.append_right tbs) h1
  exact ⟨G, fq, s, h2, q.nodup_iff.mpr nd, fun a ha => hg a (q.mem_iff.mp ha)⟩
theorem St.drop (h : St K H (x :: L)) : St K H L := by
  obtain ⟨G, fp, s, ⟨f1, f2, e, h2, h3⟩, nd, hg⟩ := h
  subst e
  exact ⟨G, f2, s, h3, (List.nodup_append.mp nd).2.1, fun a ha => hg a (List.mem_append_right _ ha)⟩
theorem St.dropN : ∀ {L1 L2 : List It}, St K H (L1 ++ L2) → St K H L2
  | [], _, h => h
  | _ :: L1, _, h => St.dropN (L1 := L1) h.drop
theorem St.sub (p : L'.Sublist L) (h : St K H L) : St K H L' := by
  obtain ⟨l1, q⟩ := p.exists_perm_append
  exact St.dropN (L1 := l1) (St.perm (q.trans List.perm_append_comm) h)
theorem St.dup {x : D} {v : V} (h : St K H (.rep (.d x) v :: L)) : St K H (.rep (.d x) v :: .rep (.d x) v :: L) := by
  obtain ⟨G, fp, s, ⟨f1, f2, e, h2, h3⟩, nd, hg⟩ := h
  have h2' : Own K G H (.d x) v f1 := h2
  rw [Own] at h2'
  obtain ⟨e1, r⟩ := h2'
  subst e1
  have z : Own K G H (.d x) v [] := by rw [Own]; exact ⟨rfl, r⟩
  exact ⟨G, fp, s, ⟨[], f2, e, z, [], f2, rfl, z, h3⟩, nd, hg⟩
/-- a flat value -/
def flatD : D → V → Prop
  | .non, v => v = .non
  | .bl b, v => v = .bl b
  | .int i, v => v = .int i
  | .str x, v => v = .str x
  | _, _ => False
theorem flat_rep {d : D} {v : V} (h : flatD d v) : Rep K G d v := by
  cases d <;> first | (rw [Rep]; exact h) | exact h.elim
theorem St.flat {d : D} {v : V} (f : flatD d v) (h : St K H L) : St K H (.rep (.d d) v :: L) := by
  obtain ⟨G, fp, s, h1, nd, hg⟩ := h
  exact ⟨G, fp, s, ⟨[], fp, rfl, by show Own K G H (.d d) v []; rw [Own]; exact ⟨rfl, flat_rep f⟩, h1⟩, nd, hg⟩
theorem St.freeze {o : O} {v : V} (h : St K H (.rep o v :: L)) : St K H (.rep (.d o.toD) v :: L) := by
  obtain ⟨G, fp, s, ⟨f1, f2, e, h2, h3⟩, nd, hg⟩ := h
  subst e
  have h2' : Own K G H o v f1 := h2
  have g1 : ∀ a ∈ f1, G a = none := fun a ha => hg a (List.mem_append_left _ ha)
  have r := Own.freeze h2' g1
  refine ⟨addG G H f1, f2, fun b u q => ?_, ⟨[], f2, rfl, ?_, Sep.frame (addG_same g1) h3 fun _ _ => rfl⟩, (List.nodup_append.mp nd).2.1, fun a ha => ?_⟩
  · unfold addG at q
    by_cases hb : b ∈ f1
    · rw [if_pos hb] at q; exact q
    · rw [if_neg hb] at q; exact s b u q
  · show Own K _ H (.d o.toD) v []
    rw [Own]; exact ⟨rfl, r⟩
  · unfold addG
    rw [if_neg fun hb => (List.nodup_append.mp nd).2.2 a hb a ha rfl]
    exact hg a (List.mem_append_right _ ha)
/-- a new object -/
theorem St.alloc {p : Addr} {u : HO} (hp : H p = none) (h : St K H L) : St K (upd H p u) (.raw p u :: L) := by
  obtain ⟨G, fp, s, h1, nd, hg⟩ := h
  have hnp : p ∉ fp := fun hb => Sep.there h1 p hb hp
  have gp : G p = none := by
    cases q : G p with
    | none => rfl
    | some o => rw [s p o q] at hp; cases hp
  refine ⟨G, p :: fp, fun b o q => ?_, ⟨[p], fp, rfl, ⟨rfl, upd_same⟩, Sep.frame (Same.refl G) h1 fun a ha => upd_ne fun e => hnp (e ▸ ha)⟩, List.nodup_cons.mpr ⟨hnp, nd⟩, fun a ha => ?_⟩
  · rw [upd_ne fun e => by rw [e, gp] at q; cases q]
    exact s b o q
  · rcases List.mem_cons.mp ha with rfl | ha
    · exact gp
    · exact hg a ha
/-- an owned object is written -/
theorem St.write {p : Addr} {u u' : HO} (h : St K H (.raw p u :: L)) : St K (upd H p u') (.raw p u' :: L) := by
  obtain ⟨G, fp, s, ⟨f1, f2, e, ⟨e1, h2⟩, h3⟩, nd, hg⟩ := h
  subst e1 e
  have nd' := List.nodup_cons.mp nd
  have gp : G p = none := hg p List.mem_cons_self
  refine ⟨G, p :: f2, fun b o q => ?_, ⟨[p], f2, rfl, ⟨rfl, upd_same⟩, Sep.frame (Same.refl G) h3 fun a ha => upd_ne fun e => nd'.1 (e ▸ ha)⟩, nd, hg⟩
  rw [upd_ne fun e => by rw [e, gp] at q; cases q]
  exact s b o q
theorem St.raw_at {p : Addr} {u : HO} (h : St K H (.raw p u :: L)) : H p = some u := by
  obtain ⟨G, fp, s, ⟨f1, f2, e, ⟨e1, h2⟩, h3⟩, nd, hg⟩ := h
  exact h2
theorem sep_reps : ∀ {os : List O} {vs : List V} {fp : List Addr}, Owns K G H os vs fp → Sep K G H (reps os vs) fp
  | [], _, _, h => by
    rw [Owns] at h
    rw [h.1, h.2]; exact rfl
  | o :: os, _, _, h => by
    rw [Owns] at h
    obtain ⟨v, r, f1, f2, h1, h2, h3, h4⟩ := h
    subst h1 h2
    exact ⟨f1, f2, rfl, h3, sep_reps h4⟩
theorem owns_reps : ∀ {os : List O} {vs : List V} {fp : List Addr}, os.length = vs.length → Sep K G H (reps os vs) fp → Owns K G H os vs fp
  | [], [], fp, _, h => by
    rw [Owns]
    exact ⟨rfl, h⟩
  | o :: os, v :: vs, fp, e, h => by
    obtain ⟨f1, f2, h1, h2, h3⟩ := h
    rw [Owns]
    exact ⟨v, vs, f1, f2, rfl, h1, h2, owns_reps (by simpa using e) h3⟩
  | [], _ :: _, _, e, _ => by cases e
  | _ :: _, [], _, e, _ => by cases e
/-- an owned list taken apart -/
theorem St.open_lst {os : List O} {v : V} (h : St K H (.rep (.lst os) v :: L)) : ∃ a vs, v = .ref a ∧ os.length = vs.length ∧ St K H (.raw a (.lst vs) :: (reps os vs ++ L)) := by
  obtain ⟨G, fp, s, ⟨f1, f2, e, h2, h3⟩, nd, hg⟩ := h
  have h2' : Own K G H (.lst os) v f1 := h2
  rw [Own] at h2'
  obtain ⟨a, vs, fq, h1, e2, h4, h5⟩ := h2'
  subst e2 e
  refine ⟨a, vs, h1, Owns.length h5, G, _, s, ⟨[a], fq ++ f2, rfl, ⟨rfl, h4⟩, Sep.appT (sep_reps h5) h3⟩, nd, hg⟩
/-- .. and put together -/
theorem St.close_lst {os : List O} {a : Addr} {vs : List V} (hl : os.length = vs.length) (h : St K H (.raw a (.lst vs) :: (reps os vs ++ L))) : St K H (.rep (.lst os) (.ref a) :: L) := by
  obtain ⟨G, fp, s, ⟨f1, f2, e, ⟨e1, h2⟩, h3⟩, nd, hg⟩ := h
  obtain ⟨g1, g2, e2, q1, q2⟩ := Sep.splitT h3
  subst e1 e2 e
  refine ⟨G, _, s, ⟨a :: g1, g2, rfl, ?_, q2⟩, nd, hg⟩
  show Own K G H (.lst os) (.ref a) (a :: g1)
  rw [Own]
  exact ⟨a, vs, g1, rfl, rfl, h2, owns_reps hl q1⟩
theorem St.open_dct {ks : List D} {os : List O} {v : V} (h : St K H (.rep (.dct ks os) v :: L)) : ∃ a kvs, v = .ref a ∧ ks = kvs.map (fun p => keyD p.1) ∧ os.length = (kvs.map (·.2)).length ∧ St K H (.raw a (.dK kvs) :: (reps os (kvs.map (·.2)) ++ L)) := by
  obtain ⟨G, fp, s, ⟨f1, f2, e, h2, h3⟩, nd, hg⟩ := h
  have h2' : Own K G H (.dct ks os) v f1 := h2
  rw [Own] at h2'
  obtain ⟨a, kvs, fq, h1, e2, h4, h5, h6⟩ := h2'
  subst e2 e
  exact ⟨a, kvs, h1, h5, Owns.length h6, G, _, s, ⟨[a], fq ++ f2, rfl, ⟨rfl, h4⟩, Sep.appT (sep_reps h6) h3⟩, nd, hg⟩
theorem St.close_dct {os : List O} {a : Addr} {kvs : List (Key × V)} (hl : os.length = (kvs.map (·.2)).length) (h : St K H (.raw a (.dK kvs) :: (reps os (kvs.map (·.2)) ++ L))) : St K H (.rep (.dct (kvs.map fun p => keyD p.1) os) (.ref a) :: L) := by
  obtain ⟨G, fp, s, ⟨f1, f2, e, ⟨e1, h2⟩, h3⟩, nd, hg⟩ := h
  obtain ⟨g1, g2, e2, q1, q2⟩ := Sep.splitT h3
  subst e1 e2 e
  refine ⟨G, _, s, ⟨a :: g1, g2, rfl, ?_, q2⟩, nd, hg⟩
  show Own K G H (.dct _ os) (.ref a) (a :: g1)
  rw [Own]
  exact ⟨a, kvs, g1, rfl, rfl, h2, rfl, owns_reps hl q1⟩
theorem reps_leaf {ds : List D} {vs : List V} {fp : List Addr} (h : Sep K G H (reps (leaf ds) vs) fp) (hl : ds.length = vs.length) : fp = [] ∧ Reps K G ds vs := by
  induction ds generalizing vs fp with
  | nil =>
    cases vs with
    | nil => rw [Reps]; exact ⟨h, rfl⟩
    | cons => cases hl
  | cons d ds ih =>
    cases vs with
    | nil => cases hl
    | cons v vs =>
      obtain ⟨f1, f2, e, h2, h3⟩ := h
      have h2' : Own K G H (.d d) v f1 := h2
      rw [Own] at h2'
      obtain ⟨e1, r⟩ := h2'
      obtain ⟨e2, rs⟩ := ih (vs := vs) (fp := f2) h3 (by simpa using hl)
      subst e1 e2
      refine ⟨e, ?_⟩
      rw [Reps]
      exact ⟨v, vs, rfl, r, rs⟩
theorem leaf_reps : ∀ {ds : List D} {vs : List V}, Reps K G ds vs → Sep K G H (reps (leaf ds) vs) []
  | [], _, h => by
    rw [Reps] at h; subst h; exact rfl
  | d :: ds, _, h => by
    rw [Reps] at h
    obtain ⟨v, r, h1, h2, h3⟩ := h
    subst h1
    refine ⟨[], [], rfl, ?_, leaf_reps h3⟩
    show Own K G H (.d d) v []
    rw [Own]; exact ⟨rfl, h2⟩
/-- a new object of frozen parts becomes frozen: a tuple -/
theorem St.close_tup {ds : List D} {a : Addr} {vs : List V} (hl : ds.length = vs.length) (h : St K H (.raw a (.tup vs) :: (reps (leaf ds) vs ++ L))) : St K H (.rep (.d (.tup ds)) (.ref a) :: L) := by
  obtain ⟨G, fp, s, ⟨f1, f2, e, ⟨e1, h2⟩, h3⟩, nd, hg⟩ := h
  obtain ⟨g1, g2, e2, q1, q2⟩ := Sep.splitT h3
  obtain ⟨e3, r⟩ := reps_leaf q1 hl
  subst e1 e3 e2 e
  have gs : ∀ b ∈ [a], G b = none := fun b hb => hg b (by rw [List.mem_singleton.mp hb]; exact List.mem_cons_self)
  refine ⟨addG G H [a], _, fun b u q => ?_, ⟨[], _, rfl, ?_, Sep.frame (addG_same gs) q2 fun _ _ => rfl⟩, (List.nodup_cons.mp nd).2, fun b hb => ?_⟩
  · unfold addG at q
    by_cases hb : b ∈ [a]
    · rw [if_pos hb] at q; exact q
    · rw [if_neg hb] at q; exact s b u q
  · show Own K _ H (.d (.tup ds)) (.ref a) []
    rw [Own, Rep]
    refine ⟨rfl, a, vs, rfl, .inl (.inl ?_), Reps.mono (addG_same gs) r⟩
    unfold addG; rw [if_pos List.mem_cons_self]; exact h2
  · unfold addG
    rw [if_neg fun hb' => (List.nodup_cons.mp nd).1 (by rw [← List.mem_singleton.mp hb']; exact hb)]
    exact hg b (List.mem_cons_of_mem _ hb)
/-- a frozen list or tuple read: its parts -/
theorem St.read_lst {ds : List D} {v : V} (h : St K H (.rep (.d (.lst ds)) v :: L)) : ∃ a vs, v = .ref a ∧ SqL K H a vs ∧ ds.length = vs.length ∧ St K H (reps (leaf ds) vs ++ (.rep (.d (.lst ds)) v :: L)) := by
  obtain ⟨G, fp, s, ⟨f1, f2, e, h2, h3⟩, nd, hg⟩ := h
  have h2' : Own K G H (.d (.lst ds)) v f1 := h2
  have h2s := h2'
  rw [Own, Rep] at h2'
  obtain ⟨e1, a, vs, h4, h5, h6⟩ := h2'
  subst e1 e
  exact ⟨a, vs, h4, Same.seq s h5, h6.length, G, _, s, Sep.appT (leaf_reps h6) ⟨[], _, rfl, h2s, h3⟩, nd, hg⟩
theorem St.read_tup {ds : List D} {v : V} (h : St K H (.rep (.d (.tup ds)) v :: L)) : ∃ a vs, v = .ref a ∧ SqT K H a vs ∧ ds.length = vs.length ∧ St K H (reps (leaf ds) vs ++ (.rep (.d (.tup ds)) v :: L)) := by
  obtain ⟨G, fp, s, ⟨f1, f2, e, h2, h3⟩, nd, hg⟩ := h
  have h2' : Own K G H (.d (.tup ds)) v f1 := h2
  have h2s := h2'
  rw [Own, Rep] at h2'
  obtain ⟨e1, a, vs, h4, h5, h6⟩ := h2'
  subst e1 e
  exact ⟨a, vs, h4, Same.seqT s h5, h6.length, G, _, s, Sep.appT (leaf_reps h6) ⟨[], _, rfl, h2s, h3⟩, nd, hg⟩
/-- an owned list of frozen parts, read -/
theorem St.look_lst {ds : List D} {v : V} (h : St K H (.rep (.lst (leaf ds)) v :: L)) : ∃ a vs, v = .ref a ∧ H a = some (.lst vs) ∧ ds.length = vs.length ∧ St K H (reps (leaf ds) vs ++ (.rep (.lst (leaf ds)) v :: L)) := by
  obtain ⟨G, fp, s, ⟨f1, f2, e, h2, h3⟩, nd, hg⟩ := h
  have h2' : Own K G H (.lst (leaf ds)) v f1 := h2
  have h2s := h2'
  rw [Own] at h2'
  obtain ⟨a, vs, fq, h1, e2, h4, h5⟩ := h2'
  have hl := h5.length
  rw [List.length_map] at hl
  obtain ⟨e3, r⟩ := reps_leaf (sep_reps h5) hl
  exact ⟨a, vs, h1, h4, hl, G, fp, s, Sep.appT (fp := []) (leaf_reps r) ⟨f1, f2, e, h2s, h3⟩, nd, hg⟩
/-- what the head item is, over a whole heap: for rules that only look -/
theorem St.repH {o : O} {v : V} (h : St K H (.rep o v :: L)) : Rep K H o.toD v := by
  obtain ⟨G, fp, s, ⟨f1, f2, e, h2, h3⟩, nd, hg⟩ := h.freeze
  have h2' : Own K G H (.d o.toD) v f1 := h2
  rw [Own] at h2'
  exact Rep.mono s h2'.2
end
end BM
set_option Elab.async false
set_option linter.all false
set_option maxRecDepth 100000
set_option maxHeartbeats 4000000
namespace BM
open PySem PySem.Spec PyProof.Rows L2
variable [Tb]
def O.leafs : List O → Option (List D)
  | [] => some []
  | .d x :: r => match O.leafs r with
    | some l => some (x :: l)
    | none => none
  | _ :: _ => none
/-- what is to be read at once: the root may be owned, its parts are frozen -/
def O.flat : O → Option D
  | .d x => some x
  | .lst os => match O.leafs os with
    | some l => some (.lst l)
    | none => none
  | .dct ks os => match O.leafs os with
    | some l => some (.dct (ks.zip l))
    | none => none
  | .obj C ns os => match O.leafs os with
    | some l => some (.obj C ns l)
    | none => none
theorem leafs_eq : ∀ {os : List O} {l : List D}, O.leafs os = some l → os = leaf l
  | [], l, h => by
    have e : [] = l := Option.some.inj h
    subst e; rfl
  | .d x :: r, l, h => by
    rw [O.leafs] at h
    cases q : O.leafs r with
    | none => rw [q] at h; cases h
    | some m =>
      rw [q] at h
      have e : x :: m = l := Option.some.inj h
      subst e
      rw [leafs_eq q]; rfl
  | .lst _ :: _, _, h => by cases h
  | .dct _ _ :: _, _, h => by cases h
  | .obj _ _ _ :: _, _, h => by cases h
theorem leafs_leaf : ∀ l : List D, O.leafs (leaf l) = some l
  | [] => rfl
  | x :: r => by
    show (match O.leafs (leaf r) with | some l => some (x :: l) | none => none) = _
    rw [leafs_leaf r]
abbrev Env := List (Option O)
abbrev M (α : Type) := Env → Option (α × Env)
def mpure {α : Type} (a : α) : M α := fun s => some (a, s)
def mbind {α β : Type} (m : M α) (f : α → M β) : M β := fun s => match m s with
  | none => none
  | some (a, s') => f a s'
def mfail {α : Type} : M α := fun _ => none
theorem mbind_some {α β : Type} {m : M α} {f : α → M β} {s : Env} {r : β × Env} (h : mbind m f s = some r) : ∃ a s', m s = some (a, s') ∧ f a s' = some r := by
  unfold mbind at h
  cases e : m s with
  | none => rw [e] at h; cases h
  | some p => rw [e] at h; exact ⟨p.1, p.2, rfl, h⟩
/-- a name that holds plain data -/
def mVar (i : Nat) : M O := fun s => match s[i]? with
  | some (some (.d x)) => some (.d x, s)
  | _ => none
/-- a name that is read for good: frozen -/
def mFz (i : Nat) : M O := fun s => match s[i]? with
  | some (some o) => some (.d o.toD, s.set i (some (.d o.toD)))
  | _ => none
/-- a name's last use: it is moved -/
def mMv (i : Nat) : M O := fun s => match s[i]? with
  | some (some o) => some (o, s.set i none)
  | _ => none
def mC (d : D) : M O := mpure (.d d)
inductive Od where
  | val (d : D) | plc (i : Nat)
def mval (m : M O) : M Od := fun s => match m s with
  | some (o, s') => some (.val o.toD, s')
  | none => none
def Od.get (s : Env) : Od → Option D
  | .val d => some d
  | .plc i => match s[i]? with
    | some (some o) => o.flat
    | _ => none
def mods : List (M Od) → M (List Od)
  | [] => mpure []
  | m :: r => mbind m fun a => mbind (mods r) fun l => mpure (a :: l)
def odsGet (s : Env) : List Od → Option (List D)
  | [] => some []
  | a :: r => match a.get s, odsGet s r with
    | some d, some l => some (d :: l)
    | _, _ => none
def mops (ms : List (M Od)) : M (List D) := fun s => match mods ms s with
  | some (ods, s') => match odsGet s' ods with
    | some ds => some (ds, s')
    | none => none
  | none => none
/-- a pure operation over operands -/
def mOp (F : List D → Option O) (ms : List (M Od)) : M O := fun s => match mops ms s with
  | some (ds, s') => match F ds with
    | some o => some (o, s')
    | none => none
  | none => none
/-- .. as a test -/
def mTst (F : List D → Option Bool) (ms : List (M Od)) : M Bool := fun s => match mops ms s with
  | some (ds, s') => match F ds with
    | some b => some (b, s')
    | none => none
  | none => none
def bO (F : List D → Option Bool) : List D → Option O := fun ds => match F ds with
  | some b => some (.d (.bl b))
  | none => none
def mArgs : List (M O) → M (List O)
  | [] => mpure []
  | m :: r => mbind m fun a => mbind (mArgs r) fun l => mpure (a :: l)
def mTup (ms : List (M O)) : M O := mbind (mArgs ms) fun os => mpure (.d (.tup (O.toDs os)))
def mLst (ms : List (M O)) : M O := mbind (mArgs ms) fun os => mpure (.lst os)
def mIf {α : Type} (c : M Bool) (a b : M α) : M α := mbind c fun k => if k = true then a else b
def tAnd (a b : M Bool) : M Bool := mbind a fun k => if k = true then b else mpure false
def tOr (a b : M Bool) : M Bool := mbind a fun k => if k = true then mpure true else b
def tNot (a : M Bool) : M Bool := mbind a fun k => mpure (!k)
/-- truth of plain data -/
def truthD : D → Option Bool
  | .non => some false
  | .bl b => some b
  | .int i => some (i != 0)
  | .str y => if y.length ≤ sizeLine then some ((y.length : Int) != 0) else none
  | .tup l => some (!l.isEmpty)
  | .lst l => some (!l.isEmpty)
  | _ => none
def truth1 : List D → Option Bool
  | [d] => truthD d
  | _ => none
/-- x or y, x and y by truth -/
def mOr (a b : M O) : M O := mbind a fun o => match truthD o.toD with
  | some k => if k = true then mpure (.d o.toD) else b
  | none => mfail
def mAnd (a b : M O) : M O := mbind a fun o => match truthD o.toD with
  | some k => if k = true then b else mpure (.d o.toD)
  | none => mfail
inductive Fl where
  | nx | bk | ct | rt (o : O)
def mset (i : Nat) (o : O) : M Unit := fun s => if i < s.length then some ((), s.set i (some o)) else none
def wipeE (s : Env) : List Nat → Env
  | [] => s
  | v :: vs => (wipeE s vs).set v none
def mwipe (l : List Nat) : M Unit := fun s => some ((), wipeE s l)
/-- x = e, owned as it is -/
def sSetO (i : Nat) (m : M O) : M Fl := mbind m fun o => mbind (mset i o) fun _ => mpure .nx
/-- x = e, frozen -/
def sSet (i : Nat) (m : M O) : M Fl := mbind m fun o => mbind (mset i (.d o.toD)) fun _ => mpure .nx
def sExpr (m : M O) : M Fl := mbind m fun _ => mpure .nx
def sRet (m : M O) : M Fl := mbind m fun o => mpure (.rt o)
def sRetN : M Fl := mpure (.rt (.d .non))
def sPass : M Fl := mpure .nx
def sBreak : M Fl := mpure .bk
def sCont : M Fl := mpure .ct
def sIf (c : M Bool) (a b : M Fl) : M Fl := mIf c a b
def sSeq (a b : M Fl) : M Fl := mbind a fun f => match f with
  | .nx => b
  | f => mpure f
/-- targets of plain data -/
def gNm (i : Nat) : D → M Unit := fun d => mset i (.d d)
def gTs : List (D → M Unit) → List D → M Unit
  | [], [] => mpure ()
  | g :: gs, d :: ds => mbind (g d) fun _ => gTs gs ds
  | _, _ => mfail
def gTp (gs : List (D → M Unit)) : D → M Unit
  | .tup ds => gTs gs ds
  | _ => mfail
def sTgt (g : D → M Unit) (m : M O) : M Fl := mbind m fun o => mbind (g o.toD) fun _ => mpure .nx
def forL (g : D → M Unit) (body : M Fl) : List D → M Fl
  | [] => mpure .nx
  | d :: ds => mbind (g d) fun _ => mbind body fun f => match f with
    | .nx => forL g body ds
    | .ct => forL g body ds
    | .bk => mpure .nx
    | .rt o => mpure (.rt o)
def sFor (src : M (List D)) (g : D → M Unit) (body : M Fl) : M Fl := mbind src fun ds => forL g body ds
def lcL (own : List Nat) (g : D → M Unit) (t : M Bool) (elt : M O) : List D → M (List O)
  | [] => mpure []
  | d :: ds => mbind (g d) fun _ => mbind t fun k => if k = true then
      mbind elt fun o => mbind (mwipe own) fun _ => mbind (lcL own g t elt ds) fun l => mpure (o :: l)
    else mbind (mwipe own) fun _ => lcL own g t elt ds
def mLc (own : List Nat) (src : M (List D)) (g : D → M Unit) (t : M Bool) (elt : M O) : M O :=
  mbind src fun ds => mbind (mwipe own) fun _ => mbind (lcL own g t elt ds) fun l => if l.length ≤ sizeLine then mpure (.lst l) else mfail
def tYes : M Bool := mpure true
inductive Ar where
  | val (o : O) | plc (i : Nat)
def aval (m : M O) : M Ar := fun s => match m s with
  | some (o, s') => some (.val o, s')
  | none => none
def mars : List (M Ar) → M (List Ar)
  | [] => mpure []
  | m :: r => mbind m fun a => mbind (mars r) fun l => mpure (a :: l)
/-- the arguments' values as they stand at the call; a place is taken out of its slot -/
def takeArs : List Ar → M (List O)
  | [] => mpure []
  | .val o :: r => mbind (takeArs r) fun l => mpure (o :: l)
  | .plc i :: r => fun s => match s[i]? with
    | some (some o) => match takeArs r (s.set i none) with
      | some (l, s') => some (o :: l, s')
      | none => none
    | _ => none
/-- what the call left is put back -/
def giveArs : List Ar → List O → M Unit
  | [], [] => mpure ()
  | .val _ :: r, _ :: l => giveArs r l
  | .plc i :: r, o :: l => fun s => if i < s.length then giveArs r l (s.set i (some o)) else none
  | _, _ => mfail
def mCall (f : List O → Option (O × List O)) (ms : List (M Ar)) : M O := mbind (mars ms) fun ars => mbind (takeArs ars) fun os => fun s => match f os with
  | none => none
  | some (r, outs) => match giveArs ars outs s with
    | none => none
    | some (_, s') => some (r, s')
def keyEq : D → D → Bool
  | .int i, .int j => i == j
  | .str x, .str y => x == y
  | _, _ => false
def idxKey (k : D) : List D → Option Nat
  | [] => none
  | x :: r => if keyEq x k = true then some 0 else match idxKey k r with
    | some j => some (j + 1)
    | none => none
end BM
set_option Elab.async false
set_option linter.all false
set_option maxRecDepth 100000
set_option maxHeartbeats 4000000
namespace BM
open PySem PySem.Spec PyProof.Rows L2
variable [Tb]
inductive EnvR : Env → L2.St → List It → Prop
  | nil : EnvR [] [] []
  | no {env σ L x} : EnvR env σ L → EnvR (none :: env) (x :: σ) L
  | yes {env σ L o v} : EnvR env σ L → EnvR (some o :: env) (some v :: σ) (.rep o v :: L)
theorem EnvR.len {env : Env} {σ : L2.St} {L : List It} (h : EnvR env σ L) : env.length = σ.length := by
  induction h with
  | nil => rfl
  | no _ ih => simp [ih]
  | yes _ ih => simp [ih]
theorem EnvR.out {env : Env} {σ : L2.St} {L : List It} (h : EnvR env σ L) : ∀ {i : Nat} {o : O}, env[i]? = some (some o) → ∃ v L', σ[i]? = some (some v) ∧ EnvR (env.set i none) σ L' ∧ L.Perm (.rep o v :: L') := by
  induction h with
  | nil => intro i o e; simp at e
  | no h ih =>
    intro i o e
    cases i with
    | zero => simp at e
    | succ i =>
      obtain ⟨v, L', h1, h2, h3⟩ := ih (i := i) (o := o) (by simpa using e)
      exact ⟨v, L', by simpa using h1, .no h2, h3⟩
  | @yes env σ L o' v' h ih =>
    intro i o e
    cases i with
    | zero =>
      have e' : o' = o := by simpa using e
      subst e'
      exact ⟨v', L, rfl, .no h, .refl _⟩
    | succ i =>
      obtain ⟨v, L', h1, h2, h3⟩ := ih (i := i) (o := o) (by simpa using e)
      exact ⟨v, _, by simpa using h1, .yes h2, (h3.cons _).trans (.swap _ _ _)⟩
theorem EnvR.put {env : Env} {σ : L2.St} {L : List It} {o : O} {v : V} (h : EnvR env σ L) : ∀ {i : Nat}, i < env.length → ∃ L1 L2, EnvR (env.set i (some o)) (σ.set i (some v)) L1 ∧ L2.Sublist L ∧ L1.Perm (.rep o v :: L2) := by
  induction h with
  | nil => intro i e; simp at e
  | @no env σ L x h ih =>
    intro i e
    cases i with
    | zero => exact ⟨_, L, .yes h, .refl _, .refl _⟩
    | succ i =>
      obtain ⟨L1, L2, h1, h2, h3⟩ := ih (i := i) (by simpa using e)
      exact ⟨L1, L2, .no h1, h2, h3⟩
  | @yes env σ L o' v' h ih =>
    intro i e
    cases i with
    | zero => exact ⟨_, L, .yes h, .cons _ (.refl _), .refl _⟩
    | succ i =>
      obtain ⟨L1, L2, h1, h2, h3⟩ := ih (i := i) (by simpa using e)
      exact ⟨_, _, .yes h1, .cons₂ _ h2, (h3.cons _).trans (.swap _ _ _)⟩
theorem EnvR.wipe {env : Env} {σ : L2.St} {L : List It} {x : Option V} (h : EnvR env σ L) : ∀ {i : Nat}, ∃ L1, EnvR (env.set i none) (σ.set i x) L1 ∧ L1.Sublist L := by
  induction h with
  | nil => intro i; exact ⟨[], by simpa using EnvR.nil, .refl _⟩
  | no h ih =>
    intro i
    cases i with
    | zero => exact ⟨_, .no h, .refl _⟩
    | succ i =>
      obtain ⟨L1, h1, h2⟩ := ih (i := i)
      exact ⟨L1, .no h1, h2⟩
  | yes h ih =>
    intro i
    cases i with
    | zero => exact ⟨_, .no h, .cons _ (.refl _)⟩
    | succ i =>
      obtain ⟨L1, h1, h2⟩ := ih (i := i)
      exact ⟨_, .yes h1, .cons₂ _ h2⟩
/-- the state of a body: its slots and what is held beside them -/
def RS (K : PySem.W.Frag) (H : Hp) (env : Env) (σ : L2.St) (T : List It) : Prop := ∃ L, EnvR env σ L ∧ St K H (T ++ L)
section
variable {K : PySem.W.Frag} {H H' : Hp} {env : Env} {σ : L2.St} {T T' : List It} {i : Nat} {o : O} {v : V}
theorem RS.lift (f : ∀ L, St K H (T ++ L) → St K H' (T' ++ L)) (h : RS K H env σ T) : RS K H' env σ T' := by
  obtain ⟨L, h1, h2⟩ := h
  exact ⟨L, h1, f L h2⟩
theorem RS.len (h : RS K H env σ T) : env.length = σ.length := by
  obtain ⟨L, h1, h2⟩ := h
  exact h1.len
theorem RS.take (h : RS K H env σ T) (e : env[i]? = some (some o)) : ∃ v, σ[i]? = some (some v) ∧ RS K H (env.set i none) σ (.rep o v :: T) := by
  obtain ⟨L, h1, h2⟩ := h
  obtain ⟨v, L', q1, q2, q3⟩ := h1.out e
  exact ⟨v, q1, L', q2, h2.perm ((q3.append_left T).trans List.perm_middle)⟩
theorem RS.put (h : RS K H env σ (.rep o v :: T)) (hi : i < env.length) : RS K H (env.set i (some o)) (σ.set i (some v)) T := by
  obtain ⟨L, h1, h2⟩ := h
  obtain ⟨L1, L2, q1, q2, q3⟩ := h1.put (o := o) (v := v) hi
  refine ⟨L1, q1, (h2.sub (L' := .rep o v :: (T ++ L2)) ?_).perm (List.perm_middle.symm.trans (q3.symm.append_left T))⟩
  exact .cons₂ _ (q2.append_left T)
theorem RS.putSame (h : RS K H env σ (.rep o v :: T)) (hs : σ[i]? = some (some v)) : RS K H (env.set i (some o)) σ T := by
  have hi : i < env.length := by rw [h.len]; exact (List.getElem?_eq_some_iff.mp hs).1
  have q := h.put hi
  rw [show σ.set i (some v) = σ by
    obtain ⟨h1, h2⟩ := List.getElem?_eq_some_iff.mp hs
    rw [← h2]; exact List.set_getElem_self h1] at q
  exact q
theorem RS.wipe1 {x : Option V} (h : RS K H env σ T) : RS K H (env.set i none) (σ.set i x) T := by
  obtain ⟨L, h1, h2⟩ := h
  obtain ⟨L1, q1, q2⟩ := h1.wipe (i := i) (x := x)
  exact ⟨L1, q1, h2.sub (q2.append_left T)⟩
theorem RS.perm (p : T.Perm T') (h : RS K H env σ T) : RS K H env σ T' := h.lift fun L q => q.perm (p.append_right L)
theorem RS.drop {x : It} (h : RS K H env σ (x :: T)) : RS K H env σ T := h.lift fun L q => q.drop
theorem RS.dropN {T1 : List It} (h : RS K H env σ (T1 ++ T)) : RS K H env σ T := h.lift fun L q => by
  rw [List.append_assoc] at q
  exact q.dropN
theorem RS.freeze (h : RS K H env σ (.rep o v :: T)) : RS K H env σ (.rep (.d o.toD) v :: T) := h.lift fun L q => q.freeze
end
structure Cfg where
  P : Program
  w : World
  K : PySem.W.Frag
  mg : Str → Option Value
  base : Heap
/-- the code's names, kinds, which may be stored as cells, room -/
structure Gm where
  cfg : Cfg
  N : List Str
  sc : List (Str × NameKind)
  fn : Str → Bool
  n : Nat
  /-- the def's code object and its name ahead of a lambda's, where it makes lambdas -/
  lb : Option (Value × Str)
structure Gm.Ok (Γ : Gm) (X : Cx) : Prop where
  hP : X.prog = Γ.cfg.P
  hw : X.w = Γ.cfg.w
  hK : X.K = Γ.cfg.K
  hmg : X.mg = Γ.cfg.mg
  hbase : X.base = Γ.cfg.base
  hN : X.N = Γ.N
  hsc : X.env.scope.names = Γ.sc
  hkd : X.env.scope.kind = .function
  hfn : X.fn = Γ.fn
  calm : X.calm = true
  room : Room Γ.n X.A
  xe : X.xe = fun _ _ => False
  gd : X.A.guards = some []
  cq : ∀ p, Γ.lb = some p → X.env.code = p.1 ∧ X.env.qual = p.2
/-- a comprehension's block within -/
def Gm.blk (Γ : Gm) (scope : Scope) : Gm := { Γ with
  sc := scope.names.map fun (n, k) => if (k == .free && Γ.sc.lookup n == some .cell) then (n, .cell) else (n, k)
  fn := fun x => scope.names.lookup x == some .cell
  lb := none }
theorem Gm.Ok.blk {Γ : Gm} {X : Cx} (h : Γ.Ok X) {s : Shared} {H : Hp} {scope : Scope} {C : Addr} {cl : List (Str × Addr)} {fp : List Addr} (hk : scope.kind = .function) : (Γ.blk scope).Ok (X.blk s H scope (compEnvC scope cl C X.env) fp) :=
  ⟨h.hP, h.hw, h.hK, h.hmg, h.hbase, h.hN, by
    show (relabel scope X.env).names = _
    unfold relabel Gm.blk
    have e : ∀ n, X.env.kindOf n = Γ.sc.lookup n := fun n => by
      show X.env.scope.names.lookup n = _
      rw [h.hsc]
    simp only [h.hkd, e, beq_self_eq_true, Bool.and_true], by
    show (relabel scope X.env).kind = _
    unfold relabel
    exact hk, rfl, h.calm, h.room, rfl, h.gd, fun p e => (by cases e)⟩
def Gm.vis (Γ : Gm) (x : Str) : Bool := match Γ.sc.lookup x with
  | some .local => true
  | some .cell => true
  | some .free => true
  | _ => false
def Gm.glo (Γ : Gm) (x : Str) : Bool := match Γ.sc.lookup x with
  | some .globalImplicit => true
  | _ => false
def Gm.sto (Γ : Gm) (x : Str) : Bool := match Γ.sc.lookup x with
  | some .local => true
  | some .cell => Γ.fn x
  | _ => false
theorem Gm.Ok.vis {Γ : Gm} {X : Cx} (h : Γ.Ok X) {x : Str} (e : Γ.vis x = true) : Vis X.env.scope x := by
  unfold Gm.vis at e
  unfold Vis
  rw [h.hsc]
  revert e
  cases Γ.sc.lookup x with
  | none => intro e; cases e
  | some k => cases k <;> simp
theorem Gm.Ok.glo {Γ : Gm} {X : Cx} (h : Γ.Ok X) {x : Str} (e : Γ.glo x = true) : Gl X x := by
  unfold Gm.glo at e
  show X.env.scope.names.lookup x = _
  rw [h.hsc]
  revert e
  cases Γ.sc.lookup x with
  | none => intro e; cases e
  | some k => cases k <;> simp
theorem Gm.Ok.sto {Γ : Gm} {X : Cx} (h : Γ.Ok X) {x : Str} (e : Γ.sto x = true) : L2.Loc X.env.scope x ∧ (X.fn x = true ∨ X.env.scope.names.lookup x = some .local) := by
  unfold Gm.sto at e
  unfold L2.Loc
  rw [h.hsc, h.hfn]
  revert e
  cases Γ.sc.lookup x with
  | none => intro e; cases e
  | some k => cases k <;> simp
def WE (X : Cx) (e : Expr) : TE := fun σ H Q => ∃ t, PE X e t ∧ t σ H Q
theorem pe_best (X : Cx) (e : Expr) : PE X e (WE X e) := ⟨fun pins s σ H Q I ⟨_, h, q⟩ => h.run pins s σ H Q I q⟩
def WT (X : Cx) (e : Expr) : TT := fun σ H Q => ∃ t, PT X e t ∧ t σ H Q
theorem pt_best (X : Cx) (e : Expr) : PT X e (WT X e) := ⟨fun pins s σ H Q I ⟨_, h, q⟩ => h.run pins s σ H Q I q⟩
def WO (X : Cx) (f : Value → Value → Sem Value) : R2 := fun x y H Q => ∃ r, OpR X f r ∧ r x y H Q
theorem op_best (X : Cx) (f : Value → Value → Sem Value) : OpR X f (WO X f) := fun pins s σ H x y v u Q I rx ry ⟨_, h, q⟩ => h pins s σ H x y v u Q I rx ry q
def WU (X : Cx) (f : Value → Sem Value) : V → Hp → VK → Prop := fun x H Q => ∃ r, UnR X f r ∧ r x H Q
theorem un_best (X : Cx) (f : Value → Sem Value) : UnR X f (WU X f) := fun pins s σ H x v Q I rx ⟨_, h, q⟩ => h pins s σ H x v Q I rx q
def WC (X : Cx) (f : Value) : List V → Hp → VK → Prop := fun xs H Q => ∃ r, CallR X f r ∧ r xs H Q
theorem call_best (X : Cx) (f : Value) : CallR X f (WC X f) := fun pins s σ H xs us Q I r ⟨_, h, q⟩ => h pins s σ H xs us Q I r q
def WI (X : Cx) : R2 := fun x y H Q => ∃ r, IxR X r ∧ r x y H Q
theorem ix_best (X : Cx) : IxR X (WI X) := fun a b pins s σ H x y v u Q I rx ry ⟨_, h, q⟩ hs => h a b pins s σ H x y v u Q I rx ry q hs
def WL (X : Cx) : List Expr → L2.St → Hp → (List V → Hp → Prop) → Prop
  | [], _, H, Q => Q [] H
  | e :: es, σ, H, Q => WE X e σ H fun v H1 => WL X es σ H1 fun vs H2 => Q (v :: vs) H2
theorem WE.mono {X : Cx} {e : Expr} {σ : L2.St} {H : Hp} {Q Q' : VK} (h : WE X e σ H Q) (k : ∀ v H', Q v H' → Q' v H') : WE X e σ H Q' :=
  ⟨fun σ1 H1 R => σ1 = σ ∧ H1 = H ∧ ∀ v H', Q v H' → R v H', ⟨fun pins s σ1 H1 R I ⟨e1, e2, r⟩ => by
    subst e1 e2
    exact thn ((pe_best X e).run pins s σ1 H1 Q I h) fun u s' ⟨v, H', I', rv, q⟩ => ⟨v, H', I', rv, r v H' q⟩⟩, rfl, rfl, k⟩
structure Sd (Γ : Gm) (e : Expr) (m : M O) : Prop where
  run : ∀ X, Γ.Ok X → ∀ env o env', m env = some (o, env') → ∀ σ H T, RS Γ.cfg.K H env σ T → ∀ Q : VK, (∀ v H', RS Γ.cfg.K H' env' σ (.rep o v :: T) → Q v H') → WE X e σ H Q
structure SdT (Γ : Gm) (e : Expr) (m : M Bool) : Prop where
  run : ∀ X, Γ.Ok X → ∀ env b env', m env = some (b, env') → ∀ σ H T, RS Γ.cfg.K H env σ T → ∀ Q : Bool → Hp → Prop, (∀ H', RS Γ.cfg.K H' env' σ T → Q b H') → WT X e σ H Q
/-- an operand's own item -/
def Od.its : Od → V → List It
  | .val d, v => [.rep (.d d) v]
  | .plc _, _ => []
def Od.at (σ : L2.St) : Od → V → Prop
  | .val _, _ => True
  | .plc i, v => σ[i]? = some (some v)
structure Sod (Γ : Gm) (e : Expr) (m : M Od) : Prop where
  run : ∀ X, Γ.Ok X → ∀ env a env', m env = some (a, env') → ∀ σ H T, RS Γ.cfg.K H env σ T → ∀ Q : VK, (∀ v H', RS Γ.cfg.K H' env' σ (a.its v ++ T) → a.at σ v → Q v H') → WE X e σ H Q
/-- v is to be read as d -/
def Look (L : List It) (d : D) (v : V) : Prop := ∃ o, It.rep o v ∈ L ∧ o.flat = some d
inductive Looks (L : List It) : List D → List V → Prop
  | nil : Looks L [] []
  | cons {d ds v vs} : Look L d v → Looks L ds vs → Looks L (d :: ds) (v :: vs)
structure Sops (Γ : Gm) (es : List Expr) (m : M (List D)) : Prop where
  run : ∀ X, Γ.Ok X → ∀ env ds env', m env = some (ds, env') → ∀ σ H T, RS Γ.cfg.K H env σ T → ∀ Q : List V → Hp → Prop,
    (∀ vs H' L, St Γ.cfg.K H' L → Looks L ds vs → (∀ H'' T'', St Γ.cfg.K H'' (T'' ++ L) → RS Γ.cfg.K H'' env' σ (T'' ++ T)) → Q vs H') → WL X es σ H Q
structure Sods (Γ : Gm) (es : List Expr) (ms : List (M Od)) : Prop where
  run : ∀ X, Γ.Ok X → ∀ env ods env', mods ms env = some (ods, env') → ∀ σ H T, RS Γ.cfg.K H env σ T → ∀ Q : List V → Hp → Prop,
    (∀ vs H', RS Γ.cfg.K H' env' σ ((List.zipWith Od.its ods vs).flatten ++ T) → ods.length = vs.length → (∀ p ∈ ods.zip vs, p.1.at σ p.2) → Q vs H') → WL X es σ H Q
section
variable {Γ : Gm} {e : Expr} {es : List Expr}
theorem sod_val {m : M O} (h : Sd Γ e m) : Sod Γ e (mval m) := ⟨fun X ok env a env' hm σ H T hr Q q => by
  unfold mval at hm
  cases q' : m env with
  | none => rw [q'] at hm; cases hm
  | some p =>
    obtain ⟨o, s'⟩ := p
    rw [q'] at hm
    have e1 := Option.some.inj hm
    injection e1 with e1 e2
    subst e1 e2
    exact h.run X ok env o s' q' σ H T hr Q fun v H' r => q v H' r.freeze trivial⟩
theorem sods_nil : Sods Γ [] [] := ⟨fun X ok env ods env' hm σ H T hr Q q => by
  have e1 := Option.some.inj (show some (([] : List Od), env) = some (ods, env') from hm)
  injection e1 with e1 e2
  subst e1 e2
  exact q [] H hr rfl fun p hp => by cases hp⟩
theorem sods_cons {m : M Od} {ms : List (M Od)} (h : Sod Γ e m) (hs : Sods Γ es ms) : Sods Γ (e :: es) (m :: ms) := ⟨fun X ok env ods env' hm σ H T hr Q q => by
  obtain ⟨a, s1, h1, h2⟩ := mbind_some (show mbind m (fun a => mbind (mods ms) fun l => mpure (a :: l)) env = _ from hm)
  obtain ⟨l, s2, h3, h4⟩ := mbind_some h2
  have e1 := Option.some.inj (show some (a :: l, s2) = some (ods, env') from h4)
  injection e1 with e1 e2
  subst e1 e2
  refine h.run X ok env a s1 h1 σ H T hr _ fun v H1 r1 at1 => ?_
  refine hs.run X ok s1 l s2 h3 σ H1 (a.its v ++ T) r1 _ fun vs H2 r2 l2 at2 => ?_
  refine q (v :: vs) H2 ?_ (by simp [l2]) fun p hp => ?_
  · refine RS.perm ?_ r2
    show ((List.zipWith Od.its l vs).flatten ++ (a.its v ++ T)).Perm (((a.its v) :: List.zipWith Od.its l vs).flatten ++ T)
    rw [List.flatten_cons, ← List.append_assoc, List.append_assoc (a.its v)]
    rw [← List.append_assoc]
    exact List.perm_append_comm.append_right T
  · rcases List.mem_cons.mp hp with rfl | hp
    · exact at1
    · exact at2 p hp⟩
theorem looks_of {K : PySem.W.Frag} {H : Hp} {env : Env} {σ : L2.St} {L T : List It} (hE : EnvR env σ L) : ∀ {ods : List Od} {vs : List V} {ds : List D}, odsGet env ods = some ds → ods.length = vs.length → (∀ p ∈ ods.zip vs, p.1.at σ p.2) →
    (∀ p ∈ ods.zip vs, ∀ x ∈ p.1.its p.2, x ∈ T) → Looks (T ++ L) ds vs
  | [], [], ds, h, _, _, _ => by
    have e : [] = ds := Option.some.inj h
    subst e
    exact .nil
  | a :: ods, v :: vs, ds, h, hl, ha, ht => by
    rw [odsGet] at h
    cases q1 : a.get env with
    | none => rw [q1] at h; cases h
    | some d =>
      cases q2 : odsGet env ods with
      | none => rw [q1, q2] at h; cases h
      | some l =>
        rw [q1, q2] at h
        have e := Option.some.inj h
        subst e
        refine .cons ?_ (looks_of (K := K) (H := H) hE q2 (by simpa using hl) (fun p hp => ha p (List.mem_cons_of_mem _ hp)) fun p hp => ht p (List.mem_cons_of_mem _ hp))
        cases a with
        | val x =>
          have e := Option.some.inj (show some x = some d from q1)
          subst e
          exact ⟨.d x, List.mem_append_left _ (ht (.val x, v) List.mem_cons_self _ (List.mem_singleton.mpr rfl)), rfl⟩
        | plc i =>
          have hs : σ[i]? = some (some v) := ha (.plc i, v) List.mem_cons_self
          have q1' : (match env[i]? with | some (some o) => o.flat | _ => none) = some d := q1
          cases q3 : env[i]? with
          | none => rw [q3] at q1'; cases q1'
          | some y =>
            cases y with
            | none => rw [q3] at q1'; cases q1'
            | some o =>
              rw [q3] at q1'
              obtain ⟨v', L', g1, g2, g3⟩ := hE.out q3
              rw [hs] at g1
              have e := Option.some.inj (Option.some.inj g1)
              subst e
              exact ⟨o, List.mem_append_right _ (g3.mem_iff.mpr List.mem_cons_self), q1'⟩
  | [], _ :: _, _, _, hl, _, _ => by cases hl
  | _ :: _, [], _, _, hl, _, _ => by cases hl
theorem mem_its : ∀ {ods : List Od} {vs : List V} {p : Od × V} {x : It}, p ∈ ods.zip vs → x ∈ p.1.its p.2 → x ∈ (List.zipWith Od.its ods vs).flatten
  | [], _, p, _, hp, _ => by rw [List.zip_nil_left] at hp; cases hp
  | _ :: _, [], p, _, hp, _ => by rw [List.zip_nil_right] at hp; cases hp
  | a :: ods, v :: vs, p, x, hp, hx => by
    show x ∈ ((a.its v) :: List.zipWith Od.its ods vs).flatten
    rw [List.flatten_cons]
    rcases List.mem_cons.mp hp with rfl | hp
    · exact List.mem_append_left _ hx
    · exact List.mem_append_right _ (mem_its hp hx)
theorem Sods.ops {ms : List (M Od)} (h : Sods Γ es ms) : Sops Γ es (mops ms) := ⟨fun X ok env ds env' hm σ H T hr Q q => by
  unfold mops at hm
  cases q1 : mods ms env with
  | none => rw [q1] at hm; cases hm
  | some p =>
    obtain ⟨ods, s1⟩ := p
    rw [q1] at hm
    cases q2 : odsGet s1 ods with
    | none => simp only [q2] at hm; cases hm
    | some l =>
      simp only [q2] at hm
      have e1 := Option.some.inj hm
      injection e1 with e1 e2
      subst e1 e2
      refine h.run X ok env ods s1 q1 σ H T hr _ fun vs H' r hl at1 => ?_
      obtain ⟨L, hE, hS⟩ := r
      refine q vs H' _ hS ?_ fun H'' T'' hS'' => ?_
      · exact looks_of (K := Γ.cfg.K) (H := H') hE q2 hl at1 fun p hp x hx => List.mem_append_left _ (mem_its hp hx)
      · refine ⟨L, hE, hS''.sub ?_⟩
        rw [List.append_assoc, List.append_assoc]
        exact List.Sublist.append_left (List.sublist_append_right _ _) T''⟩
end
end BM
set_option Elab.async false
set_option linter.all false
set_option maxRecDepth 100000
set_option maxHeartbeats 4000000
namespace BM
open PySem PySem.Spec PyProof.Rows L2
variable [Tb]
structure FnG (cfg : Cfg) (k : Nat) (f : Addr) (fd : FuncData) (ps : List Str) (sp : Sp) : Prop where
  arity : ∀ zs H Q E, sp zs H Q E → zs.length = ps.length
  go : ∀ (A : Around) (out : List PySem.Env) (s : Shared) (H : Hp) (args : Args) (us : List Value) (zs : List V) (Q : VK) (E : XK), Room k A → A.guards = some [] → Env0 cfg.P cfg.w cfg.K cfg.mg cfg.base A out s H →
    BindsTo s fd args (ps.zip us) → Vals zs us → sp zs H Q E → codeAny (model cfg.P cfg.w) A (.call (.ref f) args) (CR CX0 out cfg.P cfg.w H s Q E) s
section
variable {cfg : Cfg} {k j : Nat} {f : Addr} {fd : FuncData} {ps : List Str} {sp sp' : Sp}
theorem FnG.weak (F : FnG cfg k f fd ps sp) (h : ∀ zs H Q E, sp' zs H Q E → sp zs H Q E) : FnG cfg k f fd ps sp' :=
  ⟨fun zs H Q E q => F.arity zs H Q E (h zs H Q E q), fun A out s H args us zs Q E r g e b v q => F.go A out s H args us zs Q E r g e b v (h zs H Q E q)⟩
/-- the end of a call, in the caller's state -/
theorem end_call {X : Cx} {pins : List (Addr × Obj)} {σ : L2.St} {H : Hp} {s s' : Shared} {Q : VK} {r : Result} (I : Inv X pins σ H s) (h : CR CX0 X.stack X.prog X.w H s Q E0 r s') :
    (match r with | .ok (.ret u) => EP X pins σ Q u s' | .ok _ => False | .error e => X.xe e s') := by
  match r, h with
  | .ok (.ret u), h => exact I.after h
  | .ok .next, h => exact h
  | .ok .brk, h => exact h
  | .ok .cont, h => exact h
  | .error e, h => exact h.elim
/-- a def by its body -/
theorem fnG_of {qual : Str} {st : Stmt} {x : Str} {N : List Str} (F : Fun cfg.K x qual st f fd) (S : FnScope N ps (defScope st)) (hl : ∀ zs H Q E, sp zs H Q E → zs.length = ps.length)
    (hb : ∀ (cdv : Value), fd.code = cdv → ∀ (A : Around) (out : List PySem.Env) (s : Shared) (H : Hp) (zs : List V) (Q : VK) (E : XK), Room k (A.deeper (envOfC qual (defScope st) s.heap.objs.size f cdv)) → A.guards = some [] → sp zs H Q E →
      ∃ t, PSs (cxOf CX0 cfg.P cfg.w cfg.K cfg.mg cfg.base N qual (defScope st) f cdv A out s H E).nox (defBody st) t ∧ t { nx := fun _ H' => Q .non H', rt := Q } (L2.start N zs) H) : FnG cfg (k + 1) f fd ps sp := by
  obtain ⟨oc, od, kV, doc, pm, an, cdv, ct, osl, e1, lk, hcd⟩ := F.ex
  subst e1
  constructor
  · exact hl
  intro A out s H args us zs Q E hr hg e0 bnd rv q
  have there : cfg.K.In s.heap := e0.mod.kin.keeps fun b o z => (e0.bs b o z).1
  have lim : s.heap.NoLimit := e0.mod.nolimit.keeps fun b o z => (e0.bs b o z).1
  have kinds : ∀ y ∈ ps.zip us, (defScope st).names.lookup y.1 = some .local ∨ ((defScope st).names.lookup y.1 = some .cell ∧ ((cellsFrom (s.heap.objs.size + 1) (defScope st).names []).lookup y.1).isSome = true) := by
    rintro ⟨n, v⟩ hy
    have hm := (List.of_mem_zip hy).1
    cases S.par n hm with
    | inl z => exact .inl z
    | inr z => exact .inr ⟨z, PySem.W.cellsFrom_some _ _ _ (.inl z)⟩
  refine codeAny_call_function hr.depth (there _ _ lk) rfl S.co S.gen rfl (PySem.W.codeRec_of there hcd) (bnd _ _ _ _ (wpAny_newFunctionEnv_cells S.kind kinds ?_))
  intro env hE s1 xs
  subst hE
  obtain ⟨t, ht, tq⟩ := hb cdv rfl A out s H zs Q E (hr.deeper _) hg q
  have I := inv_start (CX := CX0) (E := E) S hr.hd e0 (hl _ _ _ _ q) rv xs
  refine ⟨lim.keeps xs.toInCall.keep, codeAny_func (wpAny_mono (ht.nox.run [] s1 _ H _ I tq) (fun fl s2 z => ?_) fun e s2 z => z)⟩
  match fl, z with
  | .ret u, ⟨v, σ', H', J, rv', q'⟩ => exact ⟨v, H', J.os, J.bare, J.base, J.hok, rv', q'⟩
  | .next, ⟨σ', H', J, q'⟩ => exact ⟨V.non, H', J.os, J.bare, J.base, J.hok, rfl, q'⟩
  | .brk, ⟨_, _, _, q'⟩ => exact q'.elim
  | .cont, ⟨_, _, _, q'⟩ => exact q'.elim
end
section
variable {X : Cx} {cfg : Cfg} {k n : Nat} {f : Addr} {fd : FuncData} {ps : List Str} {sp : Sp} {x : Str} {p pos : Pos} {e : Expr} {es : List Expr} {ta tk : TA}
/-- the context is one of cfg, nothing is being shown -/
structure At (X : Cx) (cfg : Cfg) : Prop where
  hP : X.prog = cfg.P
  hw : X.w = cfg.w
  hK : X.K = cfg.K
  hmg : X.mg = cfg.mg
  hbase : X.base = cfg.base
  gd : X.A.guards = some []
theorem runG (a : At X cfg) {pins : List (Addr × Obj)} {σ : L2.St} {H : Hp} {s : Shared} {Q : VK} {args : Args} {us : List Value} {zs : List V} (F : FnG cfg k f fd ps sp) (hr : Room k X.A) (I : Inv X pins σ H s) (hb : BindsTo s fd args (ps.zip us)) (r : Vals zs us) (h : sp zs H Q E0) :
    wpAny (model X.prog X.w) X.A (call (.ref f) args.pos args.kw) (EP X pins σ Q) X.xe s := by
  have e0 : Env0 cfg.P cfg.w cfg.K cfg.mg cfg.base X.A X.stack s H := by
    have z := I.env0
    rw [a.hP, a.hw, a.hK, a.hmg, a.hbase] at z
    exact z
  have w := F.go X.A X.stack s H args us zs Q E0 hr a.gd e0 hb r h
  rw [← a.hP, ← a.hw] at w
  refine wpAny_call (codeAny_mono w fun r' s' z => ?_)
  have y := end_call I z
  cases r' with
  | error e => exact y
  | ok fl =>
    cases fl with
    | ret u => exact y
    | next => exact y.elim
    | brk => exact y.elim
    | cont => exact y.elim
theorem peG_call (a : At X cfg) (F : FnG cfg k f fd ps sp) (hr : Room k X.A) (hg : Gl X x) (hm : cfg.mg x = some (.ref f)) (hk : PySem.W.keepIn cfg.K (.ref f) = true) (hb : Binds cfg.K fd ps []) (hdb : (x == ("__debug__" : Str)) = false)
    (ha : PA X (e :: es) ta) (he : starEach (e :: es) X.env = (false, eval e X.env) :: starEach es X.env) (hpl : (backTo pos (starEach es X.env)).any (·.1) = false) : PE X (.Call (.Name x p) (e :: es) [] pos) (tCall sp [] E0 ta) := by
  constructor
  intro pins s σ H Q I h
  refine wpAny_Call_Name_kw (ld_glob I hg (by rw [a.hmg]; exact hm) ?_ hdb)
  refine PySem.W.callWith_K (h₀ := X.base) I.ok.mod.kin (by rw [a.hK]; exact hk) (thn (ha.run pos pins s σ H _ I h) fun us s1 ⟨vs, H1, I1, r, q⟩ => ⟨I1.kIn, ?_⟩) he hpl
  have q : sp (vs ++ []) H1 Q E0 := q
  rw [List.append_nil] at q
  have hl : us.length = ps.length := by rw [← r.length]; exact F.arity _ _ _ _ q
  have z := hb s1 us (by have := I1.kIn; rw [a.hK] at this; exact this) (by rw [List.append_nil]; exact hl)
  rw [List.append_nil] at z
  exact runG a (args := ⟨us, []⟩) F hr I1 z r q
end
section
variable {P : Program} {w : World} {K : PySem.W.Frag} {mg : Str → Option Value}
/-- the call from a heap of which H tells at most the script -/
theorem goG {mb : Str → Option Value} {k : Nat} {fa a : Addr} {fd : FuncData} {x : Str} {sp : Sp} {s : Shared} {vs : List Value} {H : Hp} (there : K.In s.heap) (nm : s.heap.Ns mainGlobals mg) (nb : s.heap.Ns builtinsNs mb) (nbb : ∀ x : Str, x ≠ "__name__" → mb x = bootBuiltins x) (lim : s.heap.NoLimit) (nog : s.gens = #[])
    (ha : s.heap.get? a = some { cls := .type "list", data := .seq vs.toArray }) (hr : Room k callerA) (F : ∀ base : Heap, K.In base → base.Ns mainGlobals mg → FnG ⟨P, w, K, mg, base⟩ k fa fd [x] sp)
    (bnd : ∀ (s : Shared) (u : Value), BindsTo s fd ⟨[u], []⟩ [(x, u)]) (q : sp [.ref a] H (fun v _ => v = .bl true) E0) (only : Only H) (hok : HOk P w H s.heap) (alone : ∀ b, b ≠ a → H b = none) (ours : K.lookup a ≠ none → H a = none) :
    codeAny (model P w) callerA (.call (.ref fa) ⟨[.ref a], []⟩) (fun r s' => r = .ok (.ret (.bool true)) ∧ OldK s.heap s'.heap ∧ s'.os = s.os ∧ AllBare s'.gens) s := by
  have free : ∀ {b : Addr} {o : Obj}, s.heap.get? b = some o → (b = a → o.cls ≠ .type "list" ∨ H a = none) → H b = none := by
    intro b o e z
    by_cases hb : b = a
    · subst hb
      rcases z rfl with z | z
      · rw [ha] at e
        cases e
        exact absurd rfl z
      · exact z
    · exact alone b hb
  have dct : ∀ {b : Addr} {o : Obj} {es : Array DictEntry} {ep : Nat}, s.heap.get? b = some o → o.data = .dict es ep → H b = none := by
    intro b o es ep e d
    by_cases hb : b = a
    · subst hb
      rw [ha] at e
      cases e
      cases (show Data.seq vs.toArray _ = Data.dict es ep from d)
    · exact alone b hb
  have ns : ∀ {b : Addr} {m : Str → Option Value}, s.heap.Ns b m → (hidT s.heap H).Ns b m := by
    rintro b m ⟨o, es, ep, e, d, r⟩
    exact ⟨o, es, ep, hidT_get e (dct e d), d, r⟩
  have hK : K.In (hidT s.heap H) := by
    intro b o z
    refine hidT_get (there b o z) ?_
    by_cases hb : b = a
    · subst hb
      exact ours (by rw [z]; exact fun y => nomatch y)
    · exact alone b hb
  have md : Mod K mg (hidT s.heap H) := by
    refine ⟨hK, ns nm, ⟨mb, ns nb, nbb⟩, ?_⟩
    obtain ⟨mc, l1, l2⟩ := lim
    exact ⟨mc, ns l1, l2⟩
  have e0 : Env0 P w K mg (hidT s.heap H) callerA [] s H := ⟨rfl, md, fun b o z => of_hidT z, Nat.le_of_eq (hidT_size _ _), trivial, fun b z => (List.not_mem_nil (show b ∈ ([] : List Addr) from z)).elim, hok, .of_eq nog⟩
  have go := (F (hidT s.heap H) hK (ns nm)).go callerA [] s H ⟨[.ref a], []⟩ [.ref a] [.ref a] _ E0 hr rfl e0 (bnd s (.ref a)) (.cons rfl .nil) q
  refine codeAny_mono go fun r s' z => ?_
  match r, z with
  | .error e, z => exact z.elim
  | .ok .next, z => exact z.elim
  | .ok .brk, z => exact z.elim
  | .ok .cont, z => exact z.elim
  | .ok (.ret u), ⟨v, H', os, bare, un, hok', rv, e⟩ =>
    have e : v = .bl true := e
    subst e
    have hu : u = Value.bool true := rv
    subst hu
    refine ⟨rfl, .of_keep fun b o z => ?_, os, bare⟩
    rcases only b with y | ⟨ob, xs, y⟩
    · exact un.keep b o z y (fun n => List.not_mem_nil (show b ∈ ([] : List Addr) from n)) (fun n => List.not_mem_nil (show b ∈ ([] : List Addr) from n))
    · have c1 := (hok b _ y).1
      have c2 := (hok' b _ (un.frzs b ob _ y)).1
      rw [c1] at z
      cases z
      exact c2
theorem lawG {mb : Str → Option Value} {k : Nat} {fa a : Addr} {fd : FuncData} {x : Str} {sp : Sp} {s : Shared} {vs : List Value} {ns : List Int} (there : K.In s.heap) (nm : s.heap.Ns mainGlobals mg) (nb : s.heap.Ns builtinsNs mb) (nbb : ∀ x : Str, x ≠ "__name__" → mb x = bootBuiltins x) (lim : s.heap.NoLimit) (nog : s.gens = #[])
    (ha : s.heap.get? a = some { cls := .type "list", data := .seq vs.toArray }) (hia : IntsAre vs ns) (hl : ns.length ≤ sizeLine) (hr : Room k callerA) (F : ∀ base : Heap, K.In base → base.Ns mainGlobals mg → FnG ⟨P, w, K, mg, base⟩ k fa fd [x] sp)
    (bnd : ∀ (s : Shared) (u : Value), BindsTo s fd ⟨[u], []⟩ [(x, u)]) (q : ∀ H : Hp, Only H → SqL K H a (ns.map V.int) → sp [.ref a] H (fun v _ => v = .bl true) E0) :
    codeAny (model P w) callerA (.call (.ref fa) ⟨[.ref a], []⟩) (fun r s' => r = .ok (.ret (.bool true)) ∧ OldK s.heap s'.heap ∧ s'.os = s.os ∧ AllBare s'.gens) s := by
  have rv := vals_ints hia
  have lv := hia.length
  match hk : K.lookup a with
  | some o =>
    have z := there a o hk
    rw [ha] at z
    cases z
    have only : Only (fun _ => none) := fun _ => .inl rfl
    have sq : SqL K (fun _ => none) a (ns.map V.int) := .inr ⟨_, vs.toArray, _, hk, rfl, rfl, rfl, by rw [List.size_toArray, lv]; exact hl, by simpa using rv⟩
    exact goG there nm nb nbb lim nog ha hr F bnd (q _ only sq) only (fun b u y => nomatch (show (none : Option HO) = some u from y)) (fun _ _ => rfl) fun _ => rfl
  | none =>
    let ob : Obj := { cls := .type "list", data := .seq vs.toArray }
    let Hs : Hp := fun b => if b = a then some (.frz ob (.lst (ns.map V.int))) else none
    have at_ : Hs a = some (.frz ob (.lst (ns.map V.int))) := if_pos rfl
    have off : ∀ b, b ≠ a → Hs b = none := fun b hb => if_neg hb
    have only : Only Hs := by
      intro b
      by_cases hb : b = a
      · subst hb; exact .inr ⟨_, _, at_⟩
      · exact .inl (off b hb)
    have hok : HOk P w Hs s.heap := by
      intro b u y
      by_cases hb : b = a
      · subst hb
        rw [at_] at y
        cases y
        exact ⟨ha, by rw [List.length_map]; exact hl, vs, _, rv, ha⟩
      · rw [off b hb] at y; cases y
    exact goG there nm nb nbb lim nog ha hr F bnd (q Hs only (.inl (.inr ⟨ob, at_⟩))) only hok off fun y => absurd hk y
end
/-- what k_head leaves, from the law's promise -/
theorem walkG {l : PySem.W.OpenLaw} {n k : Nat} {r : Program} {loose : List Str} {XP : (Str → Option Value) → Heap → Prop} {YP : World → Heap → Prop} {d : DefRec} {K : Params → PySem.W.Frag} {sp : World → Sp} {x : Str} (hn : l.most = some n) (small : n ≤ sizeLine) (nodef : d.params.defaults = []) (room : Room k callerA)
    (there : ∀ (w : World) (h : Heap), YP w h → (K w.params).In h)
    (F : ∀ (w : World) (mg : Str → Option Value) (fa : Addr) (h : Heap), (K w.params).In h → h.Ns mainGlobals mg → mg d.name = some (.ref fa) → ∃ fd : FuncData, (∀ (s : Shared) (u : Value), BindsTo s fd ⟨[u], []⟩ [(x, u)]) ∧
      ∀ base : Heap, (K w.params).In base → base.Ns mainGlobals mg → FnG ⟨l.prog, w, K w.params, mg, base⟩ k fa fd [x] (sp w))
    (q : ∀ (w : World) (H : Hp) (a : Addr) (ns : List Int), ns.length ≤ n → Only H → SqL (K w.params) H a (ns.map V.int) → sp w [.ref a] H (fun v _ => v = .bl true) E0) : PySem.W.WalkO r loose XP YP l.row.toRowW d [] (fun f vs => PySem.call f vs) := by
  refine Att.attach_call hn nodef ?_
  intro w s₀ s₁ mg mb fa o pm cd doc a vs ns G Y ho hd hcd hmg hobj hints hlen hg
  have KX := there w _ Y
  obtain ⟨fd, hb, hF⟩ := F w mg fa _ KX G.T.g hmg
  exact lawG KX G.T.g G.T.b G.T.builtins G.T.nolimit hg hobj hints (Nat.le_trans hlen small) room hF hb fun H o s => q w H a ns hlen o s
end BM
set_option Elab.async false
set_option linter.all false
set_option maxRecDepth 100000
set_option maxHeartbeats 4000000
namespace BM
open PySem PySem.Spec PyProof.Rows L2
variable [Tb]
section
variable {K : PySem.W.Frag} {H H' : Hp} {L T : List It} {x : D} {v : V}
theorem St.leafv (h : St K H (.rep (.d x) v :: L)) : ∃ G, Same G H ∧ Rep K G x v := by
  obtain ⟨G, fp, s, ⟨f1, f2, e, h2, h3⟩, nd, hg⟩ := h
  have h2' : Own K G H (.d x) v f1 := h2
  rw [Own] at h2'
  exact ⟨G, s, h2'.2⟩
theorem St.blv {b : Bool} (h : St K H (.rep (.d (.bl b)) v :: L)) : v = .bl b := by
  obtain ⟨G, _, r⟩ := h.leafv
  rw [Rep] at r; exact r
theorem St.intv {i : Int} (h : St K H (.rep (.d (.int i)) v :: L)) : v = .int i := by
  obtain ⟨G, _, r⟩ := h.leafv
  rw [Rep] at r; exact r
theorem St.strv {i : Str} (h : St K H (.rep (.d (.str i)) v :: L)) : v = .str i := by
  obtain ⟨G, _, r⟩ := h.leafv
  rw [Rep] at r; exact r
theorem St.nonv (h : St K H (.rep (.d .non) v :: L)) : v = .non := by
  obtain ⟨G, _, r⟩ := h.leafv
  rw [Rep] at r; exact r
theorem mem_perm {α : Type} {a : α} : ∀ {l : List α}, a ∈ l → ∃ r, l.Perm (a :: r)
  | b :: l, h => by
    rcases List.mem_cons.mp h with e | h
    · subst e; exact ⟨l, .refl _⟩
    · obtain ⟨r, p⟩ := mem_perm h
      exact ⟨b :: r, (p.cons b).trans (.swap _ _ _)⟩
/-- what is looked at, by its deep form -/
theorem flat_toD {o : O} {d : D} (h : o.flat = some d) : o.toD = d := by
  cases o with
  | d x => exact Option.some.inj h
  | lst os =>
    have h' : (match O.leafs os with | some l => some (D.lst l) | none => none) = some d := h
    cases q : O.leafs os with
    | none => rw [q] at h'; cases h'
    | some l =>
      rw [q] at h'
      have e := Option.some.inj h'
      subst e
      rw [leafs_eq q, O.toD, toDs_leaf]
  | dct ks os =>
    have h' : (match O.leafs os with | some l => some (D.dct (ks.zip l)) | none => none) = some d := h
    cases q : O.leafs os with
    | none => rw [q] at h'; cases h'
    | some l =>
      rw [q] at h'
      have e := Option.some.inj h'
      subst e
      rw [leafs_eq q, O.toD, toDs_leaf]
  | obj C ns os =>
    have h' : (match O.leafs os with | some l => some (D.obj C ns l) | none => none) = some d := h
    cases q : O.leafs os with
    | none => rw [q] at h'; cases h'
    | some l =>
      rw [q] at h'
      have e := Option.some.inj h'
      subst e
      rw [leafs_eq q, O.toD, toDs_leaf]
theorem Look.rep {d : D} (h : St K H L) (k : Look L d v) : Rep K H d v := by
  obtain ⟨o, hm, hf⟩ := k
  obtain ⟨r, p⟩ := mem_perm hm
  rw [← flat_toD hf]
  exact (h.perm p).repH
theorem Look.int {i : Int} (h : St K H L) (k : Look L (.int i) v) : v = .int i := by
  have r := k.rep h
  rw [Rep] at r; exact r
theorem Look.str {i : Str} (h : St K H L) (k : Look L (.str i) v) : v = .str i := by
  have r := k.rep h
  rw [Rep] at r; exact r
theorem Look.bl {i : Bool} (h : St K H L) (k : Look L (.bl i) v) : v = .bl i := by
  have r := k.rep h
  rw [Rep] at r; exact r
theorem Look.non (h : St K H L) (k : Look L .non v) : v = .non := by
  have r := k.rep h
  rw [Rep] at r; exact r
/-- a list that is looked at: its parts are frozen -/
theorem Look.lst {ds : List D} (h : St K H L) (k : Look L (.lst ds) v) : ∃ a vs, v = .ref a ∧ SqL K H a vs ∧ ds.length = vs.length ∧ St K H (reps (leaf ds) vs ++ L) := by
  obtain ⟨o, hm, hf⟩ := k
  obtain ⟨r, p⟩ := mem_perm hm
  cases o with
  | d x =>
    have e := Option.some.inj (show some x = some (D.lst ds) from hf)
    subst e
    obtain ⟨a, vs, h1, h2, h3, h4⟩ := (h.perm p).read_lst
    exact ⟨a, vs, h1, h2, h3, h4.perm (p.symm.append_left _)⟩
  | lst os =>
    have h' : (match O.leafs os with | some l => some (D.lst l) | none => none) = some (D.lst ds) := hf
    cases q : O.leafs os with
    | none => rw [q] at h'; cases h'
    | some l =>
      rw [q] at h'
      have e := Option.some.inj h'
      injection e with e
      subst e
      have e2 := leafs_eq q
      subst e2
      obtain ⟨a, vs, h1, h2, h3, h4⟩ := (h.perm p).look_lst
      exact ⟨a, vs, h1, SqL.of h2, h3, h4.perm (p.symm.append_left _)⟩
  | dct ks os =>
    have h' : (match O.leafs os with | some l => some (D.dct (ks.zip l)) | none => none) = some (D.lst ds) := hf
    cases q : O.leafs os with
    | none => rw [q] at h'; cases h'
    | some l => rw [q] at h'; cases h'
  | obj C ns os =>
    have h' : (match O.leafs os with | some l => some (D.obj C ns l) | none => none) = some (D.lst ds) := hf
    cases q : O.leafs os with
    | none => rw [q] at h'; cases h'
    | some l => rw [q] at h'; cases h'
theorem Look.tup {ds : List D} (h : St K H L) (k : Look L (.tup ds) v) : ∃ a vs, v = .ref a ∧ SqT K H a vs ∧ ds.length = vs.length ∧ St K H (reps (leaf ds) vs ++ L) := by
  obtain ⟨o, hm, hf⟩ := k
  obtain ⟨r, p⟩ := mem_perm hm
  cases o with
  | d x =>
    have e := Option.some.inj (show some x = some (D.tup ds) from hf)
    subst e
    obtain ⟨a, vs, h1, h2, h3, h4⟩ := (h.perm p).read_tup
    exact ⟨a, vs, h1, h2, h3, h4.perm (p.symm.append_left _)⟩
  | lst os =>
    have h' : (match O.leafs os with | some l => some (D.lst l) | none => none) = some (D.tup ds) := hf
    cases q : O.leafs os with
    | none => rw [q] at h'; cases h'
    | some l => rw [q] at h'; cases h'
  | dct ks os =>
    have h' : (match O.leafs os with | some l => some (D.dct (ks.zip l)) | none => none) = some (D.tup ds) := hf
    cases q : O.leafs os with
    | none => rw [q] at h'; cases h'
    | some l => rw [q] at h'; cases h'
  | obj C ns os =>
    have h' : (match O.leafs os with | some l => some (D.obj C ns l) | none => none) = some (D.tup ds) := hf
    cases q : O.leafs os with
    | none => rw [q] at h'; cases h'
    | some l => rw [q] at h'; cases h'
/-- the i-th part as an item -/
theorem reps_at : ∀ {ds : List D} {vs : List V} {i : Nat} {d : D}, ds.length = vs.length → ds[i]? = some d → ∃ v, vs[i]? = some v ∧ .rep (.d d) v ∈ reps (leaf ds) vs
  | d :: ds, v :: vs, 0, d', _, h => by
    have e := Option.some.inj (show some d = some d' from h)
    subst e
    exact ⟨v, rfl, List.mem_cons_self⟩
  | d :: ds, v :: vs, i + 1, d', hl, h => by
    obtain ⟨w, h1, h2⟩ := reps_at (ds := ds) (vs := vs) (i := i) (d := d') (by simpa using hl) (by simpa using h)
    exact ⟨w, by simpa using h1, List.mem_cons_of_mem _ h2⟩
  | [], _, i, _, _, h => by simp at h
  | _ :: _, [], _, _, hl, _ => by cases hl
/-- one item taken to the front -/
theorem St.pick {o : O} {v : V} {R : List It} (h : St K H (R ++ L)) (hm : It.rep o v ∈ R) : St K H (.rep o v :: L) := by
  obtain ⟨r, p⟩ := mem_perm hm
  refine St.sub ?_ (h.perm (p.append_right L))
  exact .cons₂ _ (List.sublist_append_right r L)
theorem Look.wide {d : D} {L' : List It} (k : Look L d v) (h : ∀ x ∈ L, x ∈ L') : Look L' d v := by
  obtain ⟨o, hm, hf⟩ := k
  exact ⟨o, h _ hm, hf⟩
theorem Looks.wide {ds : List D} {vs : List V} {L' : List It} (k : Looks L ds vs) (h : ∀ x ∈ L, x ∈ L') : Looks L' ds vs := by
  induction k with
  | nil => exact .nil
  | cons a _ ih => exact .cons (a.wide h) ih
end
def OkB (Γ : Gm) (f : Value → Value → Sem Value) (F : List D → Option O) : Prop := ∀ X, Γ.Ok X → ∀ H L x y d e o, St Γ.cfg.K H L → Look L d x → Look L e y → F [d, e] = some o → ∀ Q : VK, (∀ v H', St Γ.cfg.K H' (.rep o v :: L) → Q v H') → WO X f x y H Q
def OkU (Γ : Gm) (f : Value → Sem Value) (F : List D → Option O) : Prop := ∀ X, Γ.Ok X → ∀ H L x d o, St Γ.cfg.K H L → Look L d x → F [d] = some o → ∀ Q : VK, (∀ v H', St Γ.cfg.K H' (.rep o v :: L) → Q v H') → WU X f x H Q
def OkC (Γ : Gm) (f : Value) (F : List D → Option O) : Prop := ∀ X, Γ.Ok X → ∀ H L vs ds o, St Γ.cfg.K H L → Looks L ds vs → F ds = some o → ∀ Q : VK, (∀ v H', St Γ.cfg.K H' (.rep o v :: L) → Q v H') → WC X f vs H Q
def OkX (Γ : Gm) (F : List D → Option O) : Prop := ∀ X, Γ.Ok X → ∀ H L x y d e o, St Γ.cfg.K H L → Look L d x → Look L e y → F [d, e] = some o → ∀ Q : VK, (∀ v H', St Γ.cfg.K H' (.rep o v :: L) → Q v H') → WI X x y H Q
section
variable {Γ : Gm} {a b c e : Expr} {es rest : List Expr} {ms : List (M Od)} {F : List D → Option O} {pos p : Pos} {x : Str}
theorem mOp_some {env : Env} {r : O × Env} (h : mOp F ms env = some r) : ∃ ds, mops ms env = some (ds, r.2) ∧ F ds = some r.1 := by
  unfold mOp at h
  cases q : mops ms env with
  | none => rw [q] at h; cases h
  | some p =>
    obtain ⟨ds, s⟩ := p
    rw [q] at h
    cases q2 : F ds with
    | none => simp only [q2] at h; cases h
    | some o =>
      simp only [q2] at h
      have e := Option.some.inj h
      subst e
      exact ⟨ds, rfl, q2⟩
theorem mTst_some {F : List D → Option Bool} {env : Env} {r : Bool × Env} (h : mTst F ms env = some r) : ∃ ds, mops ms env = some (ds, r.2) ∧ F ds = some r.1 := by
  unfold mTst at h
  cases q : mops ms env with
  | none => rw [q] at h; cases h
  | some p =>
    obtain ⟨ds, s⟩ := p
    rw [q] at h
    cases q2 : F ds with
    | none => simp only [q2] at h; cases h
    | some o =>
      simp only [q2] at h
      have e := Option.some.inj h
      subst e
      exact ⟨ds, rfl, q2⟩
theorem sd_var (i : Nat) (hN : Γ.N[i]? = some x := by rfl) (hv : Γ.vis x = true := by kernel_rfl) (hd : (x == ("__debug__" : Str)) = false := by kernel_rfl) (hcd : (x == ("__classdict__" : Str)) = false := by kernel_rfl) : Sd Γ (.Name x p) (mVar i) := ⟨fun X ok env o env' hm σ H T hr Q q => by
  unfold mVar at hm
  cases q1 : env[i]? with
  | none => rw [q1] at hm; cases hm
  | some y =>
    cases y with
    | none => rw [q1] at hm; cases hm
    | some o1 =>
      cases o1 with
      | d z =>
        rw [q1] at hm
        have e1 := Option.some.inj hm
        injection e1 with e1 e2
        subst e1 e2
        obtain ⟨v, hs, r⟩ := hr.take q1
        refine ⟨tVar i, pe_var (by rw [ok.hN]; exact hN) (ok.vis hv) hd hcd, v, hs, q v H ?_⟩
        have r2 : RS Γ.cfg.K H (env.set i none) σ (.rep (.d z) v :: .rep (.d z) v :: T) := r.lift fun L h => h.dup
        have r3 := r2.putSame hs
        rw [List.set_set] at r3
        rw [show env.set i (some (.d z)) = env by
          obtain ⟨h1, h2⟩ := List.getElem?_eq_some_iff.mp q1
          rw [← h2]; exact List.set_getElem_self h1] at r3
        exact r3
      | lst _ => rw [q1] at hm; cases hm
      | dct _ _ => rw [q1] at hm; cases hm
      | obj _ _ _ => rw [q1] at hm; cases hm⟩
theorem sd_fz (i : Nat) (hN : Γ.N[i]? = some x := by rfl) (hv : Γ.vis x = true := by kernel_rfl) (hd : (x == ("__debug__" : Str)) = false := by kernel_rfl) (hcd : (x == ("__classdict__" : Str)) = false := by kernel_rfl) : Sd Γ (.Name x p) (mFz i) := ⟨fun X ok env o env' hm σ H T hr Q q => by
  unfold mFz at hm
  cases q1 : env[i]? with
  | none => rw [q1] at hm; cases hm
  | some y =>
    cases y with
    | none => rw [q1] at hm; cases hm
    | some o1 =>
      rw [q1] at hm
      have e1 := Option.some.inj hm
      injection e1 with e1 e2
      subst e1 e2
      obtain ⟨v, hs, r⟩ := hr.take q1
      refine ⟨tVar i, pe_var (by rw [ok.hN]; exact hN) (ok.vis hv) hd hcd, v, hs, q v H ?_⟩
      have r2 : RS Γ.cfg.K H (env.set i none) σ (.rep (.d o1.toD) v :: .rep (.d o1.toD) v :: T) := r.lift fun L h => h.freeze.dup
      have r3 := r2.putSame hs
      rw [List.set_set] at r3
      exact r3⟩
theorem sd_mv (i : Nat) (hN : Γ.N[i]? = some x := by rfl) (hv : Γ.vis x = true := by kernel_rfl) (hd : (x == ("__debug__" : Str)) = false := by kernel_rfl) (hcd : (x == ("__classdict__" : Str)) = false := by kernel_rfl) : Sd Γ (.Name x p) (mMv i) := ⟨fun X ok env o env' hm σ H T hr Q q => by
  unfold mMv at hm
  cases q1 : env[i]? with
  | none => rw [q1] at hm; cases hm
  | some y =>
    cases y with
    | none => rw [q1] at hm; cases hm
    | some o1 =>
      rw [q1] at hm
      have e1 := Option.some.inj hm
      injection e1 with e1 e2
      subst e1 e2
      obtain ⟨v, hs, r⟩ := hr.take q1
      exact ⟨tVar i, pe_var (by rw [ok.hN]; exact hN) (ok.vis hv) hd hcd, v, hs, q v H r⟩⟩
theorem sod_plc (i : Nat) (hN : Γ.N[i]? = some x := by rfl) (hv : Γ.vis x = true := by kernel_rfl) (hd : (x == ("__debug__" : Str)) = false := by kernel_rfl) (hcd : (x == ("__classdict__" : Str)) = false := by kernel_rfl) : Sod Γ (.Name x p) (fun s => match s[i]? with
  | some (some o) => some (.plc i, s)
  | _ => none) := ⟨fun X ok env a env' hm σ H T hr Q q => by
  cases q1 : env[i]? with
  | none => simp only [q1] at hm; cases hm
  | some y =>
    cases y with
    | none => simp only [q1] at hm; cases hm
    | some o1 =>
      simp only [q1] at hm
      have e1 := Option.some.inj hm
      injection e1 with e1 e2
      subst e1 e2
      obtain ⟨v, hs, r⟩ := hr.take q1
      exact ⟨tVar i, pe_var (by rw [ok.hN]; exact hN) (ok.vis hv) hd hcd, v, hs, q v H hr hs⟩⟩
theorem sd_c {d : D} {v : V} {k : Const} {j : Nat} (hp : ∀ X, PE X (.Constant k j p) (tC v)) (f : flatD d v) : Sd Γ (.Constant k j p) (mC d) := ⟨fun X ok env o env' hm σ H T hr Q q => by
  have e1 := Option.some.inj (show some (O.d d, env) = some (o, env') from hm)
  injection e1 with e1 e2
  subst e1 e2
  exact ⟨tC v, hp X, q v H (hr.lift fun L h => h.flat f)⟩⟩
theorem sd_int {i : Int} {j : Nat} : Sd Γ (.Constant (.int i) j p) (mC (.int i)) := sd_c (v := .int i) (fun _ => pe_int) rfl
theorem sd_bl {i : Bool} {j : Nat} : Sd Γ (.Constant (.bool i) j p) (mC (.bl i)) := sd_c (v := .bl i) (fun _ => pe_bl) rfl
theorem sd_str {i : Str} {j : Nat} : Sd Γ (.Constant (.str i) j p) (mC (.str i)) := sd_c (v := .str i) (fun _ => pe_str) rfl
/-- a module's flat constant -/
theorem sd_glob {d : D} {v : V} {u : Value} (hg : Γ.glo x = true) (hm : Γ.cfg.mg x = some u) (r : RelV v u) (f : flatD d v) (hd : (x == ("__debug__" : Str)) = false := by kernel_rfl) : Sd Γ (.Name x p) (mC d) := ⟨fun X ok env o env' h σ H T hr Q q => by
  have e1 := Option.some.inj (show some (O.d d, env) = some (o, env') from h)
  injection e1 with e1 e2
  subst e1 e2
  exact ⟨tC v, pe_glob (ok.glo hg) (by rw [ok.hmg]; exact hm) r hd, q v H (hr.lift fun L h => h.flat f)⟩⟩
theorem sd_bin {op : Operator} (h : Sods Γ [a, b] ms) (ho : OkB Γ (binaryOp op) F) : Sd Γ (.BinOp a op b pos) (mOp F ms) := ⟨fun X ok env o env' hm σ H T hr Q q => by
  obtain ⟨ds, h1, h2⟩ := mOp_some hm
  refine ⟨tOp (WO X (binaryOp op)) (WE X a) (WE X b), pe_op (op_best X _) (pe_best X a) (pe_best X b), ?_⟩
  refine h.ops.run X ok env ds env' h1 σ H T hr (fun vs H' => match vs with | [x, y] => WO X (binaryOp op) x y H' Q | _ => True) fun vs H' L hS hL back => ?_
  cases hL with
  | nil => trivial
  | cons l1 hL =>
    cases hL with
    | nil => trivial
    | cons l2 hL =>
      cases hL with
      | cons _ _ => trivial
      | nil => exact ho X ok H' L _ _ _ _ _ hS l1 l2 h2 Q fun v H'' h'' => q v H'' (back H'' [_] h'')⟩
theorem sd_cmp {op : CmpOp} (h : Sods Γ [a, b] ms) (ho : OkB Γ (compareOp op) F) (hm : behindInMarks op b = false := by first | exact nomark _ | rfl) : Sd Γ (.Compare a [op] [b] pos) (mOp F ms) := ⟨fun X ok env o env' hm' σ H T hr Q q => by
  obtain ⟨ds, h1, h2⟩ := mOp_some hm'
  refine ⟨tOp (WO X (compareOp op)) (WE X a) (WE X b), pe_cmpR (op_best X _) (pe_best X a) (pe_best X b) hm, ?_⟩
  refine h.ops.run X ok env ds env' h1 σ H T hr (fun vs H' => match vs with | [x, y] => WO X (compareOp op) x y H' Q | _ => True) fun vs H' L hS hL back => ?_
  cases hL with
  | nil => trivial
  | cons l1 hL =>
    cases hL with
    | nil => trivial
    | cons l2 hL =>
      cases hL with
      | cons _ _ => trivial
      | nil => exact ho X ok H' L _ _ _ _ _ hS l1 l2 h2 Q fun v H'' h'' => q v H'' (back H'' [_] h'')⟩
theorem bO_some {F : List D → Option Bool} {ds : List D} {b : Bool} (h : F ds = some b) : bO F ds = some (.d (.bl b)) := by
  unfold bO; rw [h]
/-- a comparison as a test -/
theorem sdT_cmp {op : CmpOp} {F : List D → Option Bool} (h : Sods Γ [a, b] ms) (ho : OkB Γ (compareOp op) (bO F)) (hm : behindInMarks op b = false := by first | exact nomark _ | rfl) : SdT Γ (.Compare a [op] [b] pos) (mTst F ms) := ⟨fun X ok env o env' hm' σ H T hr Q q => by
  obtain ⟨ds, h1, h2⟩ := mTst_some hm'
  refine ⟨tTest (tOp (WO X (compareOp op)) (WE X a) (WE X b)), pt_cmpR (op_best X _) (pe_best X a) (pe_best X b) hm, ?_⟩
  refine h.ops.run X ok env ds env' h1 σ H T hr (fun vs H' => match vs with | [x, y] => WO X (compareOp op) x y H' (fun x H' => ∃ k, x = .bl k ∧ Q k H') | _ => True) fun vs H' L hS hL back => ?_
  cases hL with
  | nil => trivial
  | cons l1 hL =>
    cases hL with
    | nil => trivial
    | cons l2 hL =>
      cases hL with
      | cons _ _ => trivial
      | nil => exact ho X ok H' L _ _ _ _ _ hS l1 l2 (bO_some h2) _ fun v H'' h'' => ⟨o, h''.blv, q H'' (RS.drop (back H'' [_] h''))⟩⟩
theorem sd_un {op : UnaryOp} (h : Sods Γ [a] ms) (ho : OkU Γ (unaryOp op) F) : Sd Γ (.UnaryOp op a pos) (mOp F ms) := ⟨fun X ok env o env' hm σ H T hr Q q => by
  obtain ⟨ds, h1, h2⟩ := mOp_some hm
  refine ⟨tUn (WU X (unaryOp op)) (WE X a), pe_un (un_best X _) (pe_best X a), ?_⟩
  refine h.ops.run X ok env ds env' h1 σ H T hr (fun vs H' => match vs with | [x] => WU X (unaryOp op) x H' Q | _ => True) fun vs H' L hS hL back => ?_
  cases hL with
  | nil => trivial
  | cons l1 hL =>
    cases hL with
    | cons _ _ => trivial
    | nil => exact ho X ok H' L _ _ _ hS l1 h2 Q fun v H'' h'' => q v H'' (back H'' [_] h'')⟩
theorem sd_ix (h : Sods Γ [a, b] ms) (ho : OkX Γ F) (hs : PlainIx b := by exact fun _ _ => rfl) : Sd Γ (.Subscript a b pos) (mOp F ms) := ⟨fun X ok env o env' hm σ H T hr Q q => by
  obtain ⟨ds, h1, h2⟩ := mOp_some hm
  refine ⟨tOp (WI X) (WE X a) (WE X b), pe_ix (ix_best X) (pe_best X a) (pe_best X b) hs, ?_⟩
  refine h.ops.run X ok env ds env' h1 σ H T hr (fun vs H' => match vs with | [x, y] => WI X x y H' Q | _ => True) fun vs H' L hS hL back => ?_
  cases hL with
  | nil => trivial
  | cons l1 hL =>
    cases hL with
    | nil => trivial
    | cons l2 hL =>
      cases hL with
      | cons _ _ => trivial
      | nil => exact ho X ok H' L _ _ _ _ _ hS l1 l2 h2 Q fun v H'' h'' => q v H'' (back H'' [_] h'')⟩
/-- no star -/
inductive NoStars : List Expr → Prop
  | nil : NoStars []
  | cons (e0 : Expr) (es0 : List Expr) : (∀ env, starEach (e0 :: es0) env = (false, eval e0 env) :: starEach es0 env) → NoStars es0 → NoStars (e0 :: es0)
theorem ns_nil : NoStars [] := .nil
theorem ns_cons (h : NoStars es) (hs : ∀ env, starEach (e :: es) env = (false, eval e env) :: starEach es env := by intro _; rfl) : NoStars (e :: es) := .cons _ _ hs h
theorem pa_of {X : Cx} : ∀ {es : List Expr}, NoStars es → PA X es (fun σ H Q => WL X es σ H Q)
  | [], _ => pa_nil
  | e :: es, h => by
    cases h with
    | cons _ _ h1 h2 => exact pa_cons (pe_best X e) (pa_of h2) (h1 _)
theorem ns_head (h : NoStars (e :: es)) : ∀ env, starEach (e :: es) env = (false, eval e env) :: starEach es env := by
  cases h with
  | cons _ _ h1 h2 => exact h1
theorem ns_tail (h : NoStars (e :: es)) : NoStars es := by
  cases h with
  | cons _ _ h1 h2 => exact h2
theorem backTo_plain {pos : Pos} {es : List Expr} {env : PySem.Env} (h : NoStars es) : (backTo pos (starEach es env)).any (·.1) = false := by
  induction h with
  | nil => rfl
  | cons _ _ h1 h2 ih =>
    rw [h1]
    unfold backTo at ih ⊢
    simpa using ih
theorem sd_callB {id : String} (hn : NoStars (e :: es)) (h : Sods Γ (e :: es) ms) (ho : OkC Γ (.builtin id) F) (hg : Γ.glo x = true) (hm : Γ.cfg.mg x = none) (hv : bootBuiltins x = some (.builtin id)) (hx : x ≠ "__name__" := by decide) (hdb : (x == ("__debug__" : Str)) = false := by decide) :
    Sd Γ (.Call (.Name x p) (e :: es) [] pos) (mOp F ms) := ⟨fun X ok env o env' hm' σ H T hr Q q => by
  obtain ⟨ds, h1, h2⟩ := mOp_some hm'
  refine ⟨tCB (WC X (.builtin id)) (fun σ H Q => WL X (e :: es) σ H Q), pe_callB (call_best X _) (ok.glo hg) (by rw [ok.hmg]; exact hm) hv (pa_of hn) hx hdb (ns_head hn _) (backTo_plain (ns_tail hn)), ?_⟩
  exact h.ops.run X ok env ds env' h1 σ H T hr _ fun vs H' L hS hL back => ho X ok H' L vs ds _ hS hL h2 Q fun v H'' h'' => q v H'' (back H'' [_] h'')⟩
theorem sd_callTy {t : String} (hn : NoStars (e :: es)) (h : Sods Γ (e :: es) ms) (ho : OkC Γ (.type t) F) (hg : Γ.glo x = true) (hm : Γ.cfg.mg x = none) (hv : bootBuiltins x = some (.type t)) (hx : x ≠ "__name__" := by decide) (hdb : (x == ("__debug__" : Str)) = false := by decide) :
    Sd Γ (.Call (.Name x p) (e :: es) [] pos) (mOp F ms) := ⟨fun X ok env o env' hm' σ H T hr Q q => by
  obtain ⟨ds, h1, h2⟩ := mOp_some hm'
  refine ⟨tCB (WC X (.type t)) (fun σ H Q => WL X (e :: es) σ H Q), pe_callTy (call_best X _) (ok.glo hg) (by rw [ok.hmg]; exact hm) hv (pa_of hn) hx hdb (ns_head hn _) (backTo_plain (ns_tail hn)), ?_⟩
  exact h.ops.run X ok env ds env' h1 σ H T hr _ fun vs H' L hS hL back => ho X ok H' L vs ds _ hS hL h2 Q fun v H'' h'' => q v H'' (back H'' [_] h'')⟩
end
end BM
set_option Elab.async false
set_option linter.all false
set_option maxRecDepth 100000
set_option maxHeartbeats 4000000
namespace BM
open PySem PySem.Spec PyProof.Rows L2
variable [Tb]
section
variable {Γ : Gm} {a b c e : Expr} {es rest : List Expr} {ms : List (M Od)} {F : List D → Option O} {pos p p2 : Pos} {x : Str}
theorem truth_ok {K : PySem.W.Frag} {H : Hp} {L : List It} {d : D} {v : V} {k : Bool} (h : St K H L) (l : Look L d v) (e : truthD d = some k) : TruV K v H k := by
  cases d with
  | non => rw [l.non h]; exact (Option.some.inj e).symm
  | bl b => rw [l.bl h]; exact (Option.some.inj e).symm
  | int i => rw [l.int h]; exact (Option.some.inj e).symm
  | str y =>
    rw [l.str h]
    have e' : (if y.length ≤ sizeLine then some ((y.length : Int) != 0) else none) = some k := e
    by_cases hy : y.length ≤ sizeLine
    · rw [if_pos hy] at e'
      exact ⟨hy, (Option.some.inj e').symm⟩
    · rw [if_neg hy] at e'; cases e'
  | tup ds =>
    obtain ⟨a, vs, rfl, h1, h2, h3⟩ := l.tup h
    have e' := Option.some.inj (show some (!ds.isEmpty) = some k from e)
    refine .inr (.inl ⟨vs, h1, ?_⟩)
    rw [← e']
    cases ds <;> cases vs <;> first | rfl | (simp at h2)
  | lst ds =>
    obtain ⟨a, vs, rfl, h1, h2, h3⟩ := l.lst h
    have e' := Option.some.inj (show some (!ds.isEmpty) = some k from e)
    refine .inl ⟨vs, h1, ?_⟩
    rw [← e']
    cases ds <;> cases vs <;> first | rfl | (simp at h2)
  | dct _ => cases e
  | obj _ _ _ => cases e
theorem sdT_tr {m : M Od} (h : Sod Γ a m) (he : ∀ (env : PySem.Env) whole, isTrue a env whole = (do let v ← whole; standAt a.pos; holding [v] (truthy v)) := by intro _ _; rfl) : SdT Γ a (mTst truth1 [m]) := ⟨fun X ok env o env' hm' σ H T hr Q q => by
  obtain ⟨ds, h1, h2⟩ := mTst_some hm'
  refine ⟨_, pt_truth (pe_best X a) (he X.env), ?_⟩
  refine (sods_cons h sods_nil).ops.run X ok env ds env' h1 σ H T hr (fun vs H' => match vs with | [x] => ∃ k, TruV X.K x H' k ∧ Q k H' | _ => True) fun vs H' L hS hL back => ?_
  cases hL with
  | nil => trivial
  | cons l1 hL =>
    cases hL with
    | cons _ _ => trivial
    | nil => exact ⟨o, by rw [ok.hK]; exact truth_ok hS l1 h2, q H' (back H' [] hS)⟩⟩
theorem sdT_not {t : M Bool} (h : SdT Γ a t) : SdT Γ (.UnaryOp .Not a pos) (tNot t) := ⟨fun X ok env b env' hm σ H T hr Q q => by
  obtain ⟨k, s1, h1, h2⟩ := mbind_some hm
  have e1 := Option.some.inj (show some (!k, s1) = some (b, env') from h2)
  injection e1 with e1 e2
  subst e1 e2
  exact ⟨_, pt_not (pt_best X a), h.run X ok env k s1 h1 σ H T hr _ fun H' r => q H' r⟩⟩
/-- tests whatever their whole is -/
def WW (X : Cx) (e : Expr) : TT := fun σ H Q => ∃ t, PW X e t ∧ t σ H Q
theorem pw_best (X : Cx) (e : Expr) : PW X e (WW X e) := ⟨fun wh pins s σ H Q I ⟨_, h, q⟩ => h.run wh pins s σ H Q I q⟩
structure SdW (Γ : Gm) (e : Expr) (m : M Bool) : Prop where
  run : ∀ X, Γ.Ok X → ∀ env b env', m env = some (b, env') → ∀ σ H T, RS Γ.cfg.K H env σ T → ∀ Q : Bool → Hp → Prop, (∀ H', RS Γ.cfg.K H' env' σ T → Q b H') → WW X e σ H Q
theorem sdT_w {t : M Bool} (h : SdW Γ a t) : SdT Γ a t := ⟨fun X ok env b env' hm σ H T hr Q q => ⟨_, (pw_best X a).pt, h.run X ok env b env' hm σ H T hr Q q⟩⟩
theorem sdW_and1 {t : M Bool} (h : SdT Γ a t) : SdW Γ (.BoolOp .And [a] pos) t := ⟨fun X ok env b env' hm σ H T hr Q q => ⟨_, pw_and1 (pt_best X a), h.run X ok env b env' hm σ H T hr Q q⟩⟩
theorem sdW_or1 {t : M Bool} (h : SdT Γ a t) : SdW Γ (.BoolOp .Or [a] pos) t := ⟨fun X ok env b env' hm σ H T hr Q q => ⟨_, pw_or1 (pt_best X a), h.run X ok env b env' hm σ H T hr Q q⟩⟩
theorem sdW_and {t u : M Bool} (h : SdT Γ a t) (hu : SdW Γ (.BoolOp .And (b :: rest) pos) u) : SdW Γ (.BoolOp .And (a :: b :: rest) pos) (tAnd t u) := ⟨fun X ok env k env' hm σ H T hr Q q => by
  obtain ⟨k1, s1, h1, h2⟩ := mbind_some hm
  refine ⟨_, pw_and (pt_best X a) (pw_best X _), h.run X ok env k1 s1 h1 σ H T hr _ fun H' r => ?_⟩
  cases k1 with
  | true =>
    rw [if_pos rfl] at h2 ⊢
    exact hu.run X ok s1 k env' h2 σ H' T r Q q
  | false =>
    rw [if_neg Bool.false_ne_true] at h2 ⊢
    have e1 := Option.some.inj (show some (false, s1) = some (k, env') from h2)
    injection e1 with e1 e2
    subst e1 e2
    exact q H' r⟩
theorem sdW_or {t u : M Bool} (h : SdT Γ a t) (hu : SdW Γ (.BoolOp .Or (b :: rest) pos) u) : SdW Γ (.BoolOp .Or (a :: b :: rest) pos) (tOr t u) := ⟨fun X ok env k env' hm σ H T hr Q q => by
  obtain ⟨k1, s1, h1, h2⟩ := mbind_some hm
  refine ⟨_, pw_or (pt_best X a) (pw_best X _), h.run X ok env k1 s1 h1 σ H T hr _ fun H' r => ?_⟩
  cases k1 with
  | false =>
    rw [if_neg Bool.false_ne_true] at h2 ⊢
    exact hu.run X ok s1 k env' h2 σ H' T r Q q
  | true =>
    rw [if_pos rfl] at h2 ⊢
    have e1 := Option.some.inj (show some (true, s1) = some (k, env') from h2)
    injection e1 with e1 e2
    subst e1 e2
    exact q H' r⟩
theorem rs_truth {K : PySem.W.Frag} {H : Hp} {env : Env} {σ : L2.St} {T : List It} {d : D} {v : V} {k : Bool} (r : RS K H env σ (.rep (.d d) v :: T)) (e : truthD d = some k) : TruV K v H k := by
  obtain ⟨L, hE, hS⟩ := r
  exact truth_ok hS ⟨.d d, List.mem_cons_self, rfl⟩ e
theorem sd_one {op} {m : M O} (h : Sd Γ a m) : Sd Γ (.BoolOp op [a] pos) m := ⟨fun X ok env o env' hm σ H T hr Q q => ⟨_, pe_one (pe_best X a), h.run X ok env o env' hm σ H T hr Q q⟩⟩
theorem sd_and {ma mb : M O} (ha : Sd Γ a ma) (hb : Sd Γ (.BoolOp .And (b :: rest) pos) mb) : Sd Γ (.BoolOp .And (a :: b :: rest) pos) (mAnd ma mb) := ⟨fun X ok env o env' hm σ H T hr Q q => by
  obtain ⟨o1, s1, h1, h2⟩ := mbind_some hm
  refine ⟨_, pe_andT (pe_best X a) (pe_best X _), ha.run X ok env o1 s1 h1 σ H T hr _ fun v H' r => ?_⟩
  have r1 := r.freeze
  cases q1 : truthD o1.toD with
  | none => simp only [q1] at h2; cases h2
  | some k =>
    simp only [q1] at h2
    refine ⟨k, by rw [ok.hK]; exact rs_truth r1 q1, ?_⟩
    cases k with
    | false =>
      rw [if_neg Bool.false_ne_true] at h2 ⊢
      have e1 := Option.some.inj (show some (O.d o1.toD, s1) = some (o, env') from h2)
      injection e1 with e1 e2
      subst e1 e2
      exact q v H' r1
    | true =>
      rw [if_pos rfl] at h2 ⊢
      exact hb.run X ok s1 o env' h2 σ H' T r1.drop Q q⟩
/-- not x as a value -/
def mNot (m : M Od) : M O := fun s => match mTst truth1 [m] s with
  | some (b, s') => some (.d (.bl (!b)), s')
  | none => none
structure Sar (Γ : Gm) (es : List Expr) (m : M (List O)) : Prop where
  run : ∀ X, Γ.Ok X → ∀ env os env', m env = some (os, env') → ∀ σ H T, RS Γ.cfg.K H env σ T → ∀ Q : List V → Hp → Prop,
    (∀ vs H', os.length = vs.length → RS Γ.cfg.K H' env' σ (reps os vs ++ T) → Q vs H') → WL X es σ H Q
theorem sar_nil : Sar Γ [] (mArgs []) := ⟨fun X ok env os env' hm σ H T hr Q q => by
  have e1 := Option.some.inj (show some (([] : List O), env) = some (os, env') from hm)
  injection e1 with e1 e2
  subst e1 e2
  exact q [] H rfl hr⟩
theorem sar_cons {m : M O} {ms : List (M O)} (h : Sd Γ e m) (hs : Sar Γ es (mArgs ms)) : Sar Γ (e :: es) (mArgs (m :: ms)) := ⟨fun X ok env os env' hm σ H T hr Q q => by
  obtain ⟨a, s1, h1, h2⟩ := mbind_some (show mbind m (fun a => mbind (mArgs ms) fun l => mpure (a :: l)) env = _ from hm)
  obtain ⟨l, s2, h3, h4⟩ := mbind_some h2
  have e1 := Option.some.inj (show some (a :: l, s2) = some (os, env') from h4)
  injection e1 with e1 e2
  subst e1 e2
  refine h.run X ok env a s1 h1 σ H T hr _ fun v H1 r1 => ?_
  refine hs.run X ok s1 l s2 h3 σ H1 (.rep a v :: T) r1 _ fun vs H2 l2 r2 => ?_
  refine q (v :: vs) H2 (by simp [l2]) (r2.perm ?_)
  exact List.perm_middle⟩
theorem reps_app {K : PySem.W.Frag} {H : Hp} {L : List It} : ∀ {os : List O} {vs : List V}, os.length = vs.length → St K H (reps os vs ++ L) → St K H (reps (leaf (O.toDs os)) vs ++ L)
  | [], [], _, h => h
  | o :: os, v :: vs, hl, h => by
    have h1 : St K H (.rep o v :: (reps os vs ++ L)) := h
    have h2 := h1.freeze
    have h3 : St K H (reps os vs ++ (.rep (.d o.toD) v :: L)) := h2.perm List.perm_middle.symm
    have h4 := reps_app (os := os) (vs := vs) (by simpa using hl) h3
    exact h4.perm List.perm_middle
  | [], _ :: _, hl, _ => by cases hl
  | _ :: _, [], hl, _ => by cases hl
theorem toDs_len : ∀ os : List O, (O.toDs os).length = os.length
  | [] => rfl
  | o :: os => by rw [O.toDs, List.length_cons, List.length_cons, toDs_len os]
theorem sd_tup {ms : List (M O)} {k} (hn : NoStars es) (h : Sar Γ es (mArgs ms)) (hz : es.length ≤ 1000 := by decide) : Sd Γ (.Tuple es k pos) (mTup ms) := ⟨fun X ok env o env' hm σ H T hr Q q => by
  obtain ⟨os, s1, h1, h2⟩ := mbind_some hm
  have e1 := Option.some.inj (show some (O.d (.tup (O.toDs os)), s1) = some (o, env') from h2)
  injection e1 with e1 e2
  subst e1 e2
  refine ⟨_, pe_tup (pa_of hn), ?_⟩
  have key : ∀ (es : List Expr) (σ : L2.St) (H : Hp) (Q Q' : List V → Hp → Prop), WL X es σ H Q → (∀ vs H', vs.length = es.length → Q vs H' → Q' vs H') → WL X es σ H Q' := by
    intro es
    induction es with
    | nil => intro σ H Q Q' w k; exact k [] H rfl w
    | cons e es ih => intro σ H Q Q' w k; exact WE.mono w fun v H' w' => ih σ H' _ _ w' fun vs H'' l z => k (v :: vs) H'' (by simp [l]) z
  refine key es σ H _ _ (h.run X ok env os s1 h1 σ H T hr (fun vs H' => os.length = vs.length ∧ RS Γ.cfg.K H' s1 σ (reps os vs ++ T)) fun vs H' l r => ⟨l, r⟩) fun vs H' hl ⟨l, r⟩ => ⟨by rw [hl]; exact Nat.le_trans hz (by decide), fun p hp => q _ _ ?_⟩
  refine r.lift fun L hS => ?_
  rw [List.append_assoc] at hS
  have h3 := reps_app l hS
  exact St.close_tup (by rw [toDs_len]; exact l) (St.alloc hp h3)⟩
theorem sd_lst {ms : List (M O)} (hn : NoStars es) (h : Sar Γ es (mArgs ms)) (hz : es.length ≤ 1000 := by decide) : Sd Γ (.List es pos) (mLst ms) := ⟨fun X ok env o env' hm σ H T hr Q q => by
  obtain ⟨os, s1, h1, h2⟩ := mbind_some hm
  have e1 := Option.some.inj (show some (O.lst os, s1) = some (o, env') from h2)
  injection e1 with e1 e2
  subst e1 e2
  refine ⟨_, pe_lst (pa_of hn), ?_⟩
  have key : ∀ (es : List Expr) (σ : L2.St) (H : Hp) (Q Q' : List V → Hp → Prop), WL X es σ H Q → (∀ vs H', vs.length = es.length → Q vs H' → Q' vs H') → WL X es σ H Q' := by
    intro es
    induction es with
    | nil => intro σ H Q Q' w k; exact k [] H rfl w
    | cons e es ih => intro σ H Q Q' w k; exact WE.mono w fun v H' w' => ih σ H' _ _ w' fun vs H'' l z => k (v :: vs) H'' (by simp [l]) z
  refine key es σ H _ _ (h.run X ok env os s1 h1 σ H T hr (fun vs H' => os.length = vs.length ∧ RS Γ.cfg.K H' s1 σ (reps os vs ++ T)) fun vs H' l r => ⟨l, r⟩) fun vs H' hl ⟨l, r⟩ => ⟨by rw [hl]; exact Nat.le_trans hz (by decide), fun p hp => q _ _ ?_⟩
  refine r.lift fun L hS => ?_
  rw [List.append_assoc] at hS
  exact St.close_lst l (St.alloc hp hS)⟩
/-- what a slice of a value is -/
def WS (X : Cx) : V → Option Int → Option Int → Hp → VK → Prop := fun x lo hi H Q => ∃ r, SlR X r ∧ r x lo hi H Q
theorem sl_best (X : Cx) : SlR X (WS X) := fun pins s σ H x v vl vu lo hi sl Q I rx h1 h2 h3 ⟨_, h, q⟩ => h pins s σ H x v vl vu lo hi sl Q I rx h1 h2 h3 q
def cutD (l : List D) (lo hi : Option Int) : List D := (l.drop (HT.sIx l.length 0 lo)).take (HT.sIx l.length l.length hi - HT.sIx l.length 0 lo)
def fSlice (lo hi : Option Int) : D → Option O
  | .lst l => some (.lst (leaf (cutD l lo hi)))
  | .tup l => some (.d (.tup (cutD l lo hi)))
  | .str z => if z.length ≤ sizeLine then some (.d (.str (cutS z lo hi))) else none
  | _ => none
theorem reps_take {ds : List D} {vs : List V} (n : Nat) : reps (leaf (ds.take n)) (vs.take n) = (reps (leaf ds) vs).take n := by
  induction n generalizing ds vs with
  | zero => rfl
  | succ n ih =>
    cases ds with
    | nil => rfl
    | cons d ds =>
      cases vs with
      | nil => rfl
      | cons v vs =>
        show .rep (.d d) v :: reps (leaf (ds.take n)) (vs.take n) = .rep (.d d) v :: (reps (leaf ds) vs).take n
        rw [ih]
theorem reps_drop {ds : List D} {vs : List V} (hl : ds.length = vs.length) (n : Nat) : reps (leaf (ds.drop n)) (vs.drop n) = (reps (leaf ds) vs).drop n := by
  induction n generalizing ds vs with
  | zero => rfl
  | succ n ih =>
    cases ds with
    | nil =>
      cases vs with
      | nil => rfl
      | cons => cases hl
    | cons d ds =>
      cases vs with
      | nil => cases hl
      | cons v vs => exact ih (by simpa using hl)
theorem fSlice_ok {X : Cx} (ok : Γ.Ok X) {H : Hp} {L : List It} {v : V} {d : D} {o : O} {lo hi : Option Int} (hS : St Γ.cfg.K H L) (l : Look L d v) (hF : fSlice lo hi d = some o) {Q : VK} (q : ∀ v H', St Γ.cfg.K H' (.rep o v :: L) → Q v H') : WS X v lo hi H Q := by
  cases d with
  | lst ds =>
    have e := Option.some.inj (show some (O.lst (leaf (cutD ds lo hi))) = some o from hF)
    subst e
    obtain ⟨a, vs, rfl, h1, h2, h3⟩ := l.lst hS
    refine ⟨_, sl_list, a, vs, rfl, by rw [ok.hK]; exact h1, fun p hp => q _ _ ?_⟩
    refine St.close_lst ?_ (St.alloc hp ?_)
    · unfold cutD cutV; simp [h2]
    · unfold cutD cutV
      rw [h2, reps_take, reps_drop h2]
      exact h3.sub (((List.take_sublist _ _).trans (List.drop_sublist _ _)).append_right L)
  | tup ds =>
    have e := Option.some.inj (show some (O.d (.tup (cutD ds lo hi))) = some o from hF)
    subst e
    obtain ⟨o1, hm, hf⟩ := id l
    obtain ⟨a, vs, rfl, h1, h2, h3⟩ := l.tup hS
    refine ⟨_, sl_tupA, a, vs, rfl, by rw [ok.hK]; exact h1, fun hw => q _ _ ?_, fun hw p hp => q _ _ ?_⟩
    · obtain ⟨r, pm⟩ := mem_perm hm
      have z := (hS.perm pm).freeze
      rw [flat_toD hf] at z
      rw [show cutD ds lo hi = ds by
        unfold cutD
        rw [h2, hw.1, hw.2, List.drop_zero, Nat.sub_zero, ← h2, List.take_length]]
      -- keep the item beside its copy
      cases o1 with
      | d y =>
        have ey := Option.some.inj (show some y = some (D.tup ds) from hf)
        subst ey
        exact ((hS.perm pm).dup).perm ((pm.symm).cons _)
      | lst os =>
        have h' : (match O.leafs os with | some l => some (D.lst l) | none => none) = some (D.tup ds) := hf
        cases q : O.leafs os with
        | none => rw [q] at h'; cases h'
        | some l => rw [q] at h'; cases h'
      | dct ks os =>
        have h' : (match O.leafs os with | some l => some (D.dct (ks.zip l)) | none => none) = some (D.tup ds) := hf
        cases q : O.leafs os with
        | none => rw [q] at h'; cases h'
        | some l => rw [q] at h'; cases h'
      | obj C ns os =>
        have h' : (match O.leafs os with | some l => some (D.obj C ns l) | none => none) = some (D.tup ds) := hf
        cases q : O.leafs os with
        | none => rw [q] at h'; cases h'
        | some l => rw [q] at h'; cases h'
    · refine St.close_tup ?_ (St.alloc hp ?_)
      · unfold cutD cutV; simp [h2]
      · unfold cutD cutV
        rw [h2, reps_take, reps_drop h2]
        exact h3.sub (((List.take_sublist _ _).trans (List.drop_sublist _ _)).append_right L)
  | str z =>
    have hF' : (if z.length ≤ sizeLine then some (O.d (.str (cutS z lo hi))) else none) = some o := hF
    by_cases hz : z.length ≤ sizeLine
    · rw [if_pos hz] at hF'
      have e := Option.some.inj hF'
      subst e
      rw [l.str hS]
      exact ⟨_, sl_str, z, rfl, hz, q _ H (hS.flat rfl)⟩
    · rw [if_neg hz] at hF'; cases hF'
  | _ => cases hF
def fSlL : List D → Option O
  | [d, .int i] => fSlice (some i) none d
  | _ => none
def fSlH : List D → Option O
  | [d, .int i] => fSlice none (some i) d
  | _ => none
theorem fSlL_some {ds : List D} {o : O} (h : fSlL ds = some o) : ∃ d i, ds = [d, .int i] ∧ fSlice (some i) none d = some o := by
  unfold fSlL at h
  split at h
  · exact ⟨_, _, rfl, h⟩
  · cases h
theorem fSlH_some {ds : List D} {o : O} (h : fSlH ds = some o) : ∃ d i, ds = [d, .int i] ∧ fSlice none (some i) d = some o := by
  unfold fSlH at h
  split at h
  · exact ⟨_, _, rfl, h⟩
  · cases h
theorem sd_slL (h : Sods Γ [a, b] ms) : Sd Γ (.Subscript a (.Slice (some b) none none p2) pos) (mOp fSlL ms) := ⟨fun X ok env o env' hm σ H T hr Q q => by
  obtain ⟨ds, h1, h2⟩ := mOp_some hm
  obtain ⟨d, i, rfl, h2⟩ := fSlL_some h2
  refine ⟨_, pe_slice (sl_best X) (pe_best X a) (po_some (pe_best X b)) po_none, ?_⟩
  refine h.ops.run X ok env _ env' h1 σ H T hr (fun vs H' => match vs with | [x, y] => ∃ i, y = .int i ∧ WS X x (some i) none H' Q | _ => True) fun vs H' L hS hL back => ?_
  cases hL with
  | cons l1 hL =>
    cases hL with
    | cons l2 hL =>
      cases hL with
      | nil => exact ⟨i, l2.int hS, fSlice_ok ok hS l1 h2 fun v H'' h'' => q v H'' (back H'' [_] h'')⟩⟩
theorem sd_slH (h : Sods Γ [a, b] ms) : Sd Γ (.Subscript a (.Slice none (some b) none p2) pos) (mOp fSlH ms) := ⟨fun X ok env o env' hm σ H T hr Q q => by
  obtain ⟨ds, h1, h2⟩ := mOp_some hm
  obtain ⟨d, i, rfl, h2⟩ := fSlH_some h2
  refine ⟨_, pe_slice (sl_best X) (pe_best X a) po_none (po_some (pe_best X b)), ?_⟩
  refine h.ops.run X ok env _ env' h1 σ H T hr (fun vs H' => match vs with | [x, y] => ∃ i, y = .int i ∧ WS X x none (some i) H' Q | _ => True) fun vs H' L hS hL back => ?_
  cases hL with
  | cons l1 hL =>
    cases hL with
    | cons l2 hL =>
      cases hL with
      | nil => exact ⟨i, l2.int hS, fSlice_ok ok hS l1 h2 fun v H'' h'' => q v H'' (back H'' [_] h'')⟩⟩
end
end BM
set_option Elab.async false
set_option linter.all false
set_option maxRecDepth 100000
set_option maxHeartbeats 4000000
namespace BM
open PySem PySem.Spec PyProof.Rows L2
variable [Tb]
def WSt (X : Cx) (st : Stmt) : TS := fun D σ H => ∃ t, PS X st t ∧ t D σ H
theorem ps_best (X : Cx) (st : Stmt) : PS X st (WSt X st) := ⟨fun pins s σ H D I ⟨_, h, q⟩ => h.run pins s σ H D I q⟩
def WSs (X : Cx) (sts : List Stmt) : TS := fun D σ H => ∃ t, PSs X sts t ∧ t D σ H
theorem pss_best (X : Cx) (sts : List Stmt) : PSs X sts (WSs X sts) := ⟨fun pins s σ H D I ⟨_, h, q⟩ => h.run pins s σ H D I q⟩
def WG (X : Cx) (tg : Expr) : TG := fun v σ H Q => ∃ t, PG X tg t ∧ t v σ H Q
theorem pg_best (X : Cx) (tg : Expr) : PG X tg (WG X tg) := ⟨fun pins s σ H v u Q I r ⟨_, h, q⟩ => h.run pins s σ H v u Q I r q⟩
def WGs (X : Cx) (ts : List Expr) : TGs := fun vs σ H Q => ∃ t, PGs X ts t ∧ t vs σ H Q
theorem pgs_best (X : Cx) (ts : List Expr) : PGs X ts (WGs X ts) := ⟨fun pins s σ H vs us Q I r ⟨_, h, q⟩ => h.run pins s σ H vs us Q I r q⟩
def WIt (X : Cx) (tg iter : Expr) : TI := fun σ H R => ∃ wi, PI X tg iter wi ∧ wi σ H R
theorem pi_best (X : Cx) (tg iter : Expr) : PI X tg iter (WIt X tg iter) := ⟨fun pins s σ H R I ⟨_, h, q⟩ => h.run pins s σ H R I q⟩
/-- slots outside A are as they were -/
def Kp (A : List Nat) (σ σ' : L2.St) : Prop := σ'.length = σ.length ∧ ∀ i, i ∉ A → σ'[i]? = σ[i]?
theorem Kp.refl (A : List Nat) (σ : L2.St) : Kp A σ σ := ⟨rfl, fun _ _ => rfl⟩
theorem Kp.trans {A B : List Nat} {σ σ1 σ2 : L2.St} (a : Kp A σ σ1) (b : Kp B σ1 σ2) : Kp (A ++ B) σ σ2 :=
  ⟨b.1.trans a.1, fun i hi => (b.2 i fun z => hi (List.mem_append_right _ z)).trans (a.2 i fun z => hi (List.mem_append_left _ z))⟩
theorem Kp.wide {A B : List Nat} {σ σ1 : L2.St} (a : Kp A σ σ1) (h : ∀ i ∈ A, i ∈ B) : Kp B σ σ1 := ⟨a.1, fun i hi => a.2 i fun z => hi (h i z)⟩
theorem Kp.idem {A : List Nat} {σ σ1 σ2 : L2.St} (a : Kp A σ σ1) (b : Kp A σ1 σ2) : Kp A σ σ2 := ⟨b.1.trans a.1, fun i hi => (b.2 i hi).trans (a.2 i hi)⟩
theorem Kp.set {σ : L2.St} {i : Nat} {x : Option V} : Kp [i] σ (σ.set i x) := ⟨by simp, fun j hj => by
  rw [List.getElem?_set_ne]
  intro e; subst e; exact hj (List.mem_singleton.mpr rfl)⟩
structure Sg (Γ : Gm) (tg : Expr) (g : D → M Unit) (A : List Nat) : Prop where
  run : ∀ X, Γ.Ok X → ∀ env d env', g d env = some ((), env') → ∀ σ H T v, RS Γ.cfg.K H env σ (.rep (.d d) v :: T) → ∀ Q : L2.St → Hp → Prop, (∀ σ' H', RS Γ.cfg.K H' env' σ' T → Kp A σ σ' → Q σ' H') → WG X tg v σ H Q
structure Sgs (Γ : Gm) (ts : List Expr) (gs : List (D → M Unit)) (A : List Nat) : Prop where
  run : ∀ X, Γ.Ok X → ∀ env ds env', gTs gs ds env = some ((), env') → ∀ σ H T vs, ds.length = vs.length → RS Γ.cfg.K H env σ (reps (leaf ds) vs ++ T) → ∀ Q : L2.St → Hp → Prop, (∀ σ' H', RS Γ.cfg.K H' env' σ' T → Kp A σ σ' → Q σ' H') → WGs X ts vs σ H Q
theorem mset_some {i : Nat} {o : O} {env : Env} {r : Unit × Env} (h : mset i o env = some r) : i < env.length ∧ r.2 = env.set i (some o) := by
  unfold mset at h
  by_cases hi : i < env.length
  · rw [if_pos hi] at h
    have e := Option.some.inj h
    subst e
    exact ⟨hi, rfl⟩
  · rw [if_neg hi] at h; cases h
section
variable {Γ : Gm} {e : Expr} {p pos : Pos} {x : Str}
theorem sg_nm (i : Nat) (hN : Γ.N[i]? = some x := by rfl) (hs : Γ.sto x = true := by kernel_rfl) (nd : Γ.N.Nodup := by assumption) : Sg Γ (.Name x p) (gNm i) [i] := ⟨fun X ok env d env' hm σ H T v hr Q q => by
  obtain ⟨h1, h2⟩ := mset_some (show mset i (.d d) env = _ from hm)
  have h2 : env' = env.set i (some (.d d)) := h2
  subst h2
  obtain ⟨l1, l2⟩ := ok.sto hs
  exact ⟨gName i, pg_name (by rw [ok.hN]; exact nd) (by rw [ok.hN]; exact hN) l1 l2, q _ H (hr.put h1) Kp.set⟩⟩
theorem sgs_nil : Sgs Γ [] [] [] := ⟨fun X ok env ds env' hm σ H T vs hl hr Q q => by
  cases ds with
  | nil =>
    cases vs with
    | nil =>
      have e1 := Option.some.inj (show some ((), env) = some ((), env') from hm)
      injection e1 with _ e1
      subst e1
      exact ⟨gNil, pgs_nil, rfl, q σ H hr (Kp.refl _ _)⟩
    | cons => cases hl
  | cons => cases hm⟩
theorem sgs_cons {ts : List Expr} {g : D → M Unit} {gs : List (D → M Unit)} {A B : List Nat} (h : Sg Γ e g A) (hs : Sgs Γ ts gs B)
    (ha : ∀ env : PySem.Env, (assignEach (e :: ts) env).map (·.2) = assign e env :: (assignEach ts env).map (·.2) := by intro _; rfl) : Sgs Γ (e :: ts) (g :: gs) (A ++ B) := ⟨fun X ok env ds env' hm σ H T vs hl hr Q q => by
  cases ds with
  | nil => cases hm
  | cons d ds =>
    cases vs with
    | nil => cases hl
    | cons v vs =>
      obtain ⟨_, s1, h1, h2⟩ := mbind_some (show mbind (g d) (fun _ => gTs gs ds) env = _ from hm)
      refine ⟨gCons (WG X e) (WGs X ts), pgs_cons (pg_best X e) (pgs_best X ts) (ha X.env), v, vs, rfl, ?_⟩
      refine h.run X ok env d s1 h1 σ H (reps (leaf ds) vs ++ T) v hr _ fun σ1 H1 r1 k1 => ?_
      exact hs.run X ok s1 ds env' h2 σ1 H1 T vs (by simpa using hl) r1 _ fun σ2 H2 r2 k2 => q σ2 H2 r2 (k1.trans k2)⟩
theorem sg_tp {ts : List Expr} {k : Nat} {gs : List (D → M Unit)} {A : List Nat} {n : Nat} (h : Sgs Γ ts gs A) (hl : gs.length = n := by rfl) (hn : ∀ env : PySem.Env, (assignEach ts env).length = n := by intro _; rfl)
    (hst : ∀ env : PySem.Env, (assignEach ts env).findIdx? (·.1) = none := by intro _; rfl) : Sg Γ (.Tuple ts k pos) (gTp gs) A := ⟨fun X ok env d env' hm σ H T v hr Q q => by
  cases d with
  | tup ds =>
    have hlen : ds.length = gs.length := by
      have key : ∀ (gs : List (D → M Unit)) (ds : List D) (env : Env) (r : Unit × Env), gTs gs ds env = some r → ds.length = gs.length := by
        intro gs
        induction gs with
        | nil =>
          intro ds env r h
          cases ds with
          | nil => rfl
          | cons => cases h
        | cons g gs ih =>
          intro ds env r h
          cases ds with
          | nil => cases h
          | cons d ds =>
            obtain ⟨_, s1, _, h2⟩ := mbind_some (show mbind (g d) (fun _ => gTs gs ds) env = _ from h)
            rw [List.length_cons, List.length_cons, ih ds s1 r h2]
      exact key gs ds env _ hm
    obtain ⟨L, hE, hS⟩ := hr
    obtain ⟨a, vs, e1, h1, h2, h3⟩ := hS.read_tup
    refine ⟨gTup X.K n (WGs X ts), pg_tup ok.calm (pgs_best X ts) (hn X.env) (hst X.env), a, vs, e1, by rw [ok.hK]; exact h1, by rw [← h2, hlen, hl], ?_⟩
    refine h.run X ok env ds env' hm σ H T vs h2 ⟨L, hE, ?_⟩ Q q
    rw [List.append_assoc]
    exact h3.sub (List.Sublist.append_left (List.sublist_cons_self _ _) _)
  | _ => cases hm⟩
end
def Post (K : PySem.W.Frag) (D : Ends) (A : List Nat) (σ : L2.St) (T : List It) (env' : Env) : Fl → Prop
  | .nx => ∀ σ' H', RS K H' env' σ' T → Kp A σ σ' → D.nx σ' H'
  | .bk => ∀ σ' H', RS K H' env' σ' T → Kp A σ σ' → D.bk σ' H'
  | .ct => ∀ σ' H', RS K H' env' σ' T → Kp A σ σ' → D.ct σ' H'
  | .rt o => ∀ v σ' H', RS K H' env' σ' (.rep o v :: T) → Kp A σ σ' → D.rt v H'
structure Ss (Γ : Gm) (st : Stmt) (m : M Fl) (A : List Nat) : Prop where
  run : ∀ X, Γ.Ok X → ∀ env fl env', m env = some (fl, env') → ∀ σ H T, RS Γ.cfg.K H env σ T → ∀ D : Ends, Post Γ.cfg.K D A σ T env' fl → WSt X st D σ H
structure Sb (Γ : Gm) (sts : List Stmt) (m : M Fl) (A : List Nat) : Prop where
  run : ∀ X, Γ.Ok X → ∀ env fl env', m env = some (fl, env') → ∀ σ H T, RS Γ.cfg.K H env σ T → ∀ D : Ends, Post Γ.cfg.K D A σ T env' fl → WSs X sts D σ H
section
variable {Γ : Gm} {e : Expr} {p pos pos' : Pos} {x : Str} {st : Stmt} {rest : List Stmt} {m n : M Fl} {A B : List Nat}
theorem sb_nil : Sb Γ [] sPass [] := ⟨fun X ok env fl env' hm σ H T hr D q => by
  have e1 := Option.some.inj (show some (Fl.nx, env) = some (fl, env') from hm)
  injection e1 with e1 e2
  subst e1 e2
  exact ⟨tNext, pss_nil, q σ H hr (Kp.refl _ _)⟩⟩
theorem sb_one (h : Ss Γ st m A) : Sb Γ [st] m A := ⟨fun X ok env fl env' hm σ H T hr D q => ⟨_, pss_one (ps_best X st), h.run X ok env fl env' hm σ H T hr D q⟩⟩
theorem sb_cons (h : Ss Γ st m A) (hs : Sb Γ rest n B) : Sb Γ (st :: rest) (sSeq m n) (A ++ B) := ⟨fun X ok env fl env' hm σ H T hr D q => by
  obtain ⟨f, s1, h1, h2⟩ := mbind_some hm
  refine ⟨_, pss_cons (ps_best X st) (pss_best X rest), ?_⟩
  refine h.run X ok env f s1 h1 σ H T hr { D with nx := WSs X rest D } ?_
  cases f with
  | nx =>
    intro σ1 H1 r1 k1
    refine hs.run X ok s1 fl env' h2 σ1 H1 T r1 D ?_
    cases fl with
    | nx => exact fun σ2 H2 r2 k2 => q σ2 H2 r2 (k1.trans k2)
    | bk => exact fun σ2 H2 r2 k2 => q σ2 H2 r2 (k1.trans k2)
    | ct => exact fun σ2 H2 r2 k2 => q σ2 H2 r2 (k1.trans k2)
    | rt o => exact fun v σ2 H2 r2 k2 => q v σ2 H2 r2 (k1.trans k2)
  | bk =>
    have e1 := Option.some.inj (show some (Fl.bk, s1) = some (fl, env') from h2)
    injection e1 with e1 e2
    subst e1 e2
    exact fun σ1 H1 r1 k1 => q σ1 H1 r1 (k1.wide fun i hi => List.mem_append_left _ hi)
  | ct =>
    have e1 := Option.some.inj (show some (Fl.ct, s1) = some (fl, env') from h2)
    injection e1 with e1 e2
    subst e1 e2
    exact fun σ1 H1 r1 k1 => q σ1 H1 r1 (k1.wide fun i hi => List.mem_append_left _ hi)
  | rt o =>
    have e1 := Option.some.inj (show some (Fl.rt o, s1) = some (fl, env') from h2)
    injection e1 with e1 e2
    subst e1 e2
    exact fun v σ1 H1 r1 k1 => q v σ1 H1 r1 (k1.wide fun i hi => List.mem_append_left _ hi)⟩
theorem ss_expr {me : M O} (h : Sd Γ e me) (hs : ∀ env : PySem.Env, swapsWith e none pos.line env = pure false := by intro _; rfl) : Ss Γ (.Expr e pos) (sExpr me) [] := ⟨fun X ok env fl env' hm σ H T hr D q => by
  obtain ⟨o, s1, h1, h2⟩ := mbind_some hm
  have e1 := Option.some.inj (show some (Fl.nx, s1) = some (fl, env') from h2)
  injection e1 with e1 e2
  subst e1 e2
  exact ⟨_, ps_expr (pe_best X e) (hs X.env), h.run X ok env o s1 h1 σ H T hr _ fun v H' r => q σ H' r.drop (Kp.refl _ _)⟩⟩
theorem ss_ret {me : M O} (h : Sd Γ e me) : Ss Γ (.Return (some e) pos) (sRet me) [] := ⟨fun X ok env fl env' hm σ H T hr D q => by
  obtain ⟨o, s1, h1, h2⟩ := mbind_some hm
  have e1 := Option.some.inj (show some (Fl.rt o, s1) = some (fl, env') from h2)
  injection e1 with e1 e2
  subst e1 e2
  exact ⟨_, ps_ret (pe_best X e), h.run X ok env o s1 h1 σ H T hr _ fun v H' r => q v σ H' r (Kp.refl _ _)⟩⟩
theorem ss_if {c : Expr} {a b : List Stmt} {t : M Bool} (h : SdT Γ c t) (ha : Sb Γ a m A) (hb : Sb Γ b n B) : Ss Γ (.If c a b pos) (sIf t m n) (A ++ B) := ⟨fun X ok env fl env' hm σ H T hr D q => by
  obtain ⟨k, s1, h1, h2⟩ := mbind_some hm
  refine ⟨_, ps_if (pt_best X c) (pss_best X a) (pss_best X b), h.run X ok env k s1 h1 σ H T hr _ fun H' r => ?_⟩
  cases k with
  | true =>
    rw [if_pos rfl] at h2 ⊢
    refine ha.run X ok s1 fl env' h2 σ H' T r D ?_
    cases fl with
    | nx => exact fun σ2 H2 r2 k2 => q σ2 H2 r2 (k2.wide fun i hi => List.mem_append_left _ hi)
    | bk => exact fun σ2 H2 r2 k2 => q σ2 H2 r2 (k2.wide fun i hi => List.mem_append_left _ hi)
    | ct => exact fun σ2 H2 r2 k2 => q σ2 H2 r2 (k2.wide fun i hi => List.mem_append_left _ hi)
    | rt o => exact fun v σ2 H2 r2 k2 => q v σ2 H2 r2 (k2.wide fun i hi => List.mem_append_left _ hi)
  | false =>
    rw [if_neg Bool.false_ne_true] at h2 ⊢
    refine hb.run X ok s1 fl env' h2 σ H' T r D ?_
    cases fl with
    | nx => exact fun σ2 H2 r2 k2 => q σ2 H2 r2 (k2.wide fun i hi => List.mem_append_right _ hi)
    | bk => exact fun σ2 H2 r2 k2 => q σ2 H2 r2 (k2.wide fun i hi => List.mem_append_right _ hi)
    | ct => exact fun σ2 H2 r2 k2 => q σ2 H2 r2 (k2.wide fun i hi => List.mem_append_right _ hi)
    | rt o => exact fun v σ2 H2 r2 k2 => q v σ2 H2 r2 (k2.wide fun i hi => List.mem_append_right _ hi)⟩
/-- x = e, as it is -/
theorem ss_setO {me : M O} (i : Nat) (h : Sd Γ e me) (hN : Γ.N[i]? = some x := by rfl) (hst : Γ.sto x = true := by kernel_rfl) (nd : Γ.N.Nodup := by assumption)
    (hs : ∀ env : PySem.Env, env.scope.names = Γ.sc → swapsWith e (some (.Name x p)) pos.line env = pure false := by intro _ _; rfl) : Ss Γ (.Assign [.Name x p] e pos) (sSetO i me) [i] := ⟨fun X ok env fl env' hm σ H T hr D q => by
  obtain ⟨o, s1, h1, h2⟩ := mbind_some hm
  obtain ⟨_, s2, h3, h4⟩ := mbind_some h2
  have e1 := Option.some.inj (show some (Fl.nx, s2) = some (fl, env') from h4)
  injection e1 with e1 e2
  subst e1 e2
  obtain ⟨g1, g2⟩ := mset_some h3
  have g2 : s2 = s1.set i (some o) := g2
  subst g2
  obtain ⟨l1, l2⟩ := ok.sto hst
  exact ⟨_, ps_set (by rw [ok.hN]; exact nd) (by rw [ok.hN]; exact hN) l1 (pe_best X e) (hs X.env ok.hsc) l2, h.run X ok env o s1 h1 σ H T hr _ fun v H' r => q _ H' (r.put g1) Kp.set⟩⟩
theorem ss_set {me : M O} (i : Nat) (h : Sd Γ e me) (hN : Γ.N[i]? = some x := by rfl) (hst : Γ.sto x = true := by kernel_rfl) (nd : Γ.N.Nodup := by assumption)
    (hs : ∀ env : PySem.Env, env.scope.names = Γ.sc → swapsWith e (some (.Name x p)) pos.line env = pure false := by intro _ _; rfl) : Ss Γ (.Assign [.Name x p] e pos) (sSet i me) [i] := ⟨fun X ok env fl env' hm σ H T hr D q => by
  obtain ⟨o, s1, h1, h2⟩ := mbind_some hm
  obtain ⟨_, s2, h3, h4⟩ := mbind_some h2
  have e1 := Option.some.inj (show some (Fl.nx, s2) = some (fl, env') from h4)
  injection e1 with e1 e2
  subst e1 e2
  obtain ⟨g1, g2⟩ := mset_some h3
  have g2 : s2 = s1.set i (some (.d o.toD)) := g2
  subst g2
  obtain ⟨l1, l2⟩ := ok.sto hst
  exact ⟨_, ps_set (by rw [ok.hN]; exact nd) (by rw [ok.hN]; exact hN) l1 (pe_best X e) (hs X.env ok.hsc) l2, h.run X ok env o s1 h1 σ H T hr _ fun v H' r => q _ H' (r.freeze.put g1) Kp.set⟩⟩
/-- target = e, plain data -/
theorem ss_tgt {tg : Expr} {me : M O} {g : D → M Unit} (h : Sd Γ e me) (hg : Sg Γ tg g A) (hs : ∀ env : PySem.Env, env.scope.names = Γ.sc → swapsWithSole [tg] e pos.line env = pure false := by intro _ _; rfl) (hw : ∀ env : PySem.Env, env.scope.names = Γ.sc → swappedStores [tg] e env = pure none := by intro _ _; rfl)
    (ha : ∀ env : PySem.Env, (assignEach [tg] env).map (·.2) = [assign tg env] := by intro _; rfl) : Ss Γ (.Assign [tg] e pos) (sTgt g me) A := ⟨fun X ok env fl env' hm σ H T hr D q => by
  obtain ⟨o, s1, h1, h2⟩ := mbind_some hm
  obtain ⟨_, s2, h3, h4⟩ := mbind_some h2
  have e1 := Option.some.inj (show some (Fl.nx, s2) = some (fl, env') from h4)
  injection e1 with e1 e2
  subst e1 e2
  exact ⟨_, ps_asg (pe_best X e) (pg_best X tg) (hs X.env ok.hsc) (hw X.env ok.hsc) (ha X.env), h.run X ok env o s1 h1 σ H T hr _ fun v H' r => hg.run X ok s1 o.toD s2 h3 σ H' T v r.freeze _ fun σ' H'' r' k => q σ' H'' r' k⟩⟩
end
/-- while TI is held, J gives ds -/
structure WalkD (K : PySem.W.Frag) (J : L2.It) (ds : List D) (TI : List It) : Prop where
  go : ∀ i H L, i < ds.length → St K H (TI ++ L) → J.go i H
  stop : ∀ H L, St K H (TI ++ L) → J.stop ds.length H
  yld : ∀ i H L x H' (h : i < ds.length), St K H (TI ++ L) → J.yld i H x H' → St K H' (.rep (.d ds[i]) x :: (TI ++ L))
structure Si (Γ : Gm) (tg iter : Expr) (m : M (List D)) : Prop where
  run : ∀ X, Γ.Ok X → ∀ env ds env', m env = some (ds, env') → ∀ σ H T, RS Γ.cfg.K H env σ T → ∀ R : L2.It → Hp → Prop,
    (∀ J H1 TI, WalkD Γ.cfg.K J ds TI → RS Γ.cfg.K H1 env' σ (TI ++ T) → R J H1) → WIt X tg iter σ H R
/-- a list or a tuple -/
def listOfD : D → Option (List D)
  | .lst l => some l
  | .tup l => some l
  | _ => none
def iL (m : M O) : M (List D) := fun s => match m s with
  | some (o, s') => match o.toD with
    | .lst l => some (l, s')
    | _ => none
  | none => none
def iT (m : M O) : M (List D) := fun s => match m s with
  | some (o, s') => match o.toD with
    | .tup l => some (l, s')
    | _ => none
  | none => none
section
variable {Γ : Gm} {tg e : Expr} {m : M O} {p pos : Pos}
theorem reps_pick {K : PySem.W.Frag} {H : Hp} {ds : List D} {vs : List V} {L : List It} (hl : ds.length = vs.length) (h : St K H (reps (leaf ds) vs ++ L)) {i : Nat} {x : V} (hi : i < ds.length) (hx : vs[i]? = some x) : St K H (.rep (.d ds[i]) x :: L) := by
  obtain ⟨v, h1, h2⟩ := reps_at (ds := ds) (vs := vs) (i := i) hl (List.getElem?_eq_getElem hi)
  rw [hx] at h1
  have e := Option.some.inj h1
  subst e
  exact h.pick h2
theorem si_list (h : Sd Γ e m) : Si Γ tg e (iL m) := ⟨fun X ok env ds env' hm σ H T hr R q => by
  unfold iL at hm
  cases q1 : m env with
  | none => rw [q1] at hm; cases hm
  | some r =>
    obtain ⟨o, s1⟩ := r
    rw [q1] at hm
    cases q2 : o.toD with
    | lst l =>
      simp only [q2] at hm
      have e1 := Option.some.inj hm
      injection e1 with e1 e2
      subst e1 e2
      refine ⟨_, pi_list (pe_best X e), h.run X ok env o s1 q1 σ H T hr _ fun v H1 r1 => ?_⟩
      have r1 := r1.freeze
      rw [q2] at r1
      obtain ⟨a, vs, e1, h1⟩ : ∃ a vs, v = .ref a ∧ SqL Γ.cfg.K H1 a vs := by
        obtain ⟨L, _, hS⟩ := r1
        obtain ⟨a, vs, e1, h1, _⟩ := hS.read_lst
        exact ⟨a, vs, e1, h1⟩
      subst e1
      refine ⟨a, rfl, ⟨vs, by rw [ok.hK]; exact h1⟩, ?_⟩
      refine q _ H1 [.rep (.d (.lst l)) (.ref a)] ⟨fun i H2 L hi hS => ?_, fun H2 L hS => ?_, fun i H2 L x H' hi hS hy => ?_⟩ r1
      · obtain ⟨a', ws, e1, g1, g2, g3⟩ := St.read_lst (L := L) hS
        cases e1
        rw [ok.hK]
        exact ⟨ws, ws[i]'(by omega), g1, by simp [show i < ws.length by omega]⟩
      · obtain ⟨a', ws, e1, g1, g2, g3⟩ := St.read_lst (L := L) hS
        cases e1
        rw [ok.hK]
        exact ⟨ws, g1, by omega⟩
      · obtain ⟨a', ws, e1, g1, g2, g3⟩ := St.read_lst (L := L) hS
        cases e1
        rw [ok.hK] at hy
        obtain ⟨y1, y2⟩ := hy
        subst y1
        exact reps_pick g2 g3 hi (y2 ws g1)
    | non => simp only [q2] at hm; cases hm
    | bl _ => simp only [q2] at hm; cases hm
    | int _ => simp only [q2] at hm; cases hm
    | str _ => simp only [q2] at hm; cases hm
    | tup _ => simp only [q2] at hm; cases hm
    | dct _ => simp only [q2] at hm; cases hm
    | obj _ _ _ => simp only [q2] at hm; cases hm⟩
theorem si_tup (h : Sd Γ e m) : Si Γ tg e (iT m) := ⟨fun X ok env ds env' hm σ H T hr R q => by
  unfold iT at hm
  cases q1 : m env with
  | none => rw [q1] at hm; cases hm
  | some r =>
    obtain ⟨o, s1⟩ := r
    rw [q1] at hm
    cases q2 : o.toD with
    | tup l =>
      simp only [q2] at hm
      have e1 := Option.some.inj hm
      injection e1 with e1 e2
      subst e1 e2
      refine ⟨_, pi_tup (pe_best X e), h.run X ok env o s1 q1 σ H T hr _ fun v H1 r1 => ?_⟩
      have r1 := r1.freeze
      rw [q2] at r1
      obtain ⟨a, vs, e1, h1⟩ : ∃ a vs, v = .ref a ∧ SqT Γ.cfg.K H1 a vs := by
        obtain ⟨L, _, hS⟩ := r1
        obtain ⟨a, vs, e1, h1, _⟩ := hS.read_tup
        exact ⟨a, vs, e1, h1⟩
      subst e1
      refine ⟨a, rfl, ⟨vs, by rw [ok.hK]; exact h1⟩, ?_⟩
      refine q _ H1 [.rep (.d (.tup l)) (.ref a)] ⟨fun i H2 L hi hS => ?_, fun H2 L hS => ?_, fun i H2 L x H' hi hS hy => ?_⟩ r1
      · obtain ⟨a', ws, e1, g1, g2, g3⟩ := St.read_tup (L := L) hS
        cases e1
        rw [ok.hK]
        exact ⟨ws, ws[i]'(by omega), g1, by simp [show i < ws.length by omega]⟩
      · obtain ⟨a', ws, e1, g1, g2, g3⟩ := St.read_tup (L := L) hS
        cases e1
        rw [ok.hK]
        exact ⟨ws, g1, by omega⟩
      · obtain ⟨a', ws, e1, g1, g2, g3⟩ := St.read_tup (L := L) hS
        cases e1
        rw [ok.hK] at hy
        obtain ⟨y1, y2⟩ := hy
        subst y1
        exact reps_pick g2 g3 hi (y2 ws g1)
    | non => simp only [q2] at hm; cases hm
    | bl _ => simp only [q2] at hm; cases hm
    | int _ => simp only [q2] at hm; cases hm
    | str _ => simp only [q2] at hm; cases hm
    | lst _ => simp only [q2] at hm; cases hm
    | dct _ => simp only [q2] at hm; cases hm
    | obj _ _ _ => simp only [q2] at hm; cases hm⟩
/-- ranges -/
def upto (lo : Int) (n : Nat) : List D := (List.range n).map fun i => .int (lo + (i : Nat))
def iR1 (m : M O) : M (List D) := fun s => match m s with
  | some (.d (.int j), s') => if -(2 ^ 62) ≤ j ∧ j < 2 ^ 62 then some (upto 0 j.toNat, s') else none
  | _ => none
theorem upto_len (lo : Int) (n : Nat) : (upto lo n).length = n := by simp [upto]
theorem walk_rg {K : PySem.W.Frag} {lo : Int} {n : Nat} : WalkD K (Itr lo n) (upto lo n) [] :=
  ⟨fun i H L hi _ => by rw [upto_len] at hi; exact hi, fun H L _ => by rw [upto_len]; exact Nat.le_refl _, fun i H L x H' hi hS hy => by
    obtain ⟨e1, e2⟩ := hy
    subst e1 e2
    have e : (upto lo n)[i] = .int (lo + (i : Nat)) := by simp [upto]
    rw [e]
    exact hS.flat rfl⟩
theorem si_r1 (h : Sd Γ e m) (hg : Γ.glo "range" = true) (hmg : Γ.cfg.mg "range" = none) (hs : ∀ env : PySem.Env, starEach [e] env = [(false, eval e env)] := by intro _; rfl) : Si Γ tg (.Call (.Name "range" p) [e] [] pos) (iR1 m) := ⟨fun X ok env ds env' hm σ H T hr R q => by
  unfold iR1 at hm
  split at hm
  · rename_i j s' q1
    by_cases hj : -(2 ^ 62) ≤ j ∧ j < 2 ^ 62
    · rw [if_pos hj] at hm
      have e1 := Option.some.inj hm
      injection e1 with e1 e2
      subst e1 e2
      refine ⟨_, pi_range1 (ok.glo hg) (by rw [ok.hmg]; exact hmg) (pa_of (ns_cons ns_nil fun env => hs env)) (hs X.env), ?_⟩
      refine h.run X ok env _ s' q1 σ H T hr _ fun v H1 r1 => ?_
      have ev : v = .int j := by
        obtain ⟨L, _, hS⟩ := r1
        exact hS.intv
      subst ev
      exact ⟨j, rfl, hj.1, hj.2, q _ H1 [] walk_rg r1.drop⟩
    · rw [if_neg hj] at hm; cases hm
  · cases hm⟩
end
end BM
set_option Elab.async false
set_option linter.all false
set_option maxRecDepth 100000
set_option maxHeartbeats 4000000
namespace BM
open PySem PySem.Spec PyProof.Rows L2
variable [Tb]
section
variable {Γ : Gm} {tg iter e c : Expr} {p pos : Pos} {body : List Stmt} {src : M (List D)} {g : D → M Unit} {m : M Fl} {A B : List Nat}
theorem forL_cons {d : D} {ds : List D} {env : Env} {r : Fl × Env} (h : forL g m (d :: ds) env = some r) : ∃ s1 f s2, g d env = some ((), s1) ∧ m s1 = some (f, s2) ∧
    (match f with | .nx => forL g m ds s2 = some r | .ct => forL g m ds s2 = some r | .bk => r = (.nx, s2) | .rt o => r = (.rt o, s2)) := by
  rw [forL] at h
  obtain ⟨_, s1, h1, h2⟩ := mbind_some h
  obtain ⟨f, s2, h3, h4⟩ := mbind_some h2
  refine ⟨s1, f, s2, h1, h3, ?_⟩
  cases f with
  | nx => exact h4
  | ct => exact h4
  | bk => exact (Option.some.inj (show some (Fl.nx, s2) = some r from h4)).symm
  | rt o => exact (Option.some.inj (show some (Fl.rt o, s2) = some r from h4)).symm
theorem ss_for (hi : Si Γ tg iter src) (hg : Sg Γ tg g A) (hb : Sb Γ body m B) (hs : ∀ (env : PySem.Env) x, foldedSetIterable iter env x = pure x := by intro _ _; rfl) : Ss Γ (.For tg iter body [] pos) (sFor src g m) (A ++ B) := ⟨fun X ok env fl env' hm σ H T hr D q => by
  obtain ⟨ds, s1, h1, h2⟩ := mbind_some hm
  refine ⟨_, ps_for (by rw [ok.xe]; exact PassesOwn.never) ok.calm (pi_best X tg iter) (pg_best X tg) (pss_best X body) (hs X.env), ?_⟩
  refine hi.run X ok env ds s1 h1 σ H T hr _ fun J H1 TI wk r1 => ?_
  refine ⟨fun i n σ' H' => n = ds.length - i ∧ i ≤ ds.length ∧ ∃ s, RS Γ.cfg.K H' s σ' (TI ++ T) ∧ Kp (A ++ B) σ σ' ∧ forL g m (ds.drop i) s = some (fl, env'), ⟨ds.length, rfl, Nat.zero_le _, s1, r1, Kp.refl _ _, h2⟩, ?_⟩
  rintro i n σ2 H2 ⟨rfl, hle, s, r2, k2, h3⟩
  by_cases hlt : i < ds.length
  · right
    obtain ⟨L, hE, hS⟩ := id r2
    refine ⟨wk.go i H2 (T ++ L) hlt (by rw [← List.append_assoc]; exact hS), fun σ' H' => ∃ s, RS Γ.cfg.K H' s σ' (TI ++ T) ∧ Kp (A ++ B) σ σ' ∧ forL g m (ds.drop (i + 1)) s = some (fl, env'),
      fun σ' H' hN => ⟨ds.length - (i + 1), by omega, rfl, hlt, hN⟩, fun x H' hy => ?_⟩
    have hS2 := wk.yld i H2 (T ++ L) x H' hlt (by rw [← List.append_assoc]; exact hS) hy
    rw [List.drop_eq_getElem_cons hlt] at h3
    obtain ⟨s3, f, s4, e1, e2, e3⟩ := forL_cons h3
    refine hg.run X ok s ds[i] s3 e1 σ2 H' (TI ++ T) x ⟨L, hE, by rw [← List.append_assoc] at hS2; exact hS2⟩ _ fun σ3 H3 r3 k3 => ?_
    refine hb.run X ok s3 f s4 e2 σ3 H3 (TI ++ T) r3 _ ?_
    have kk : ∀ {σ4}, Kp B σ3 σ4 → Kp (A ++ B) σ σ4 := fun k4 => k2.idem (k3.trans k4)
    cases f with
    | nx => exact fun σ4 H4 r4 k4 => ⟨s4, r4, kk k4, e3⟩
    | ct => exact fun σ4 H4 r4 k4 => ⟨s4, r4, kk k4, e3⟩
    | bk =>
      injection e3 with e4 e5
      subst e4 e5
      exact fun σ4 H4 r4 k4 => q σ4 H4 r4.dropN (kk k4)
    | rt o =>
      injection e3 with e4 e5
      subst e4 e5
      exact fun v σ4 H4 r4 k4 => q v σ4 H4 (r4.lift fun L h => h.sub (.cons₂ _ (by show (T ++ L).Sublist (TI ++ T ++ L); rw [List.append_assoc]; exact List.sublist_append_right _ _))) (kk k4)
  · left
    have e : i = ds.length := by omega
    subst e
    rw [List.drop_length] at h3
    have e1 := Option.some.inj (show some (Fl.nx, s) = some (fl, env') from h3)
    injection e1 with e1 e2
    subst e1 e2
    obtain ⟨L, hE, hS⟩ := id r2
    exact ⟨wk.stop H2 (T ++ L) (by rw [← List.append_assoc]; exact hS), q σ2 H2 r2.dropN k2⟩⟩
end
section
variable {K : PySem.W.Frag} {H : Hp} {env : Env} {σ σ' : L2.St} {T : List It}
theorem RS.wipe : ∀ (l : List Nat), RS K H env σ T → RS K H (wipeE env l) (L2.wipe σ l) T
  | [], h => h
  | v :: vs, h => by
    rw [wipeE, L2.wipe]
    exact (RS.wipe vs h).wipe1
theorem wipeE_none : ∀ {l : List Nat} {i : Nat} {o : O}, i ∈ l → (wipeE env l)[i]? ≠ some (some o)
  | v :: vs, i, o, h, e => by
    rw [wipeE] at e
    by_cases hv : v = i
    · subst hv
      by_cases hl : v < (wipeE env vs).length
      · rw [List.getElem?_set_self hl] at e; cases e
      · rw [List.getElem?_eq_none (by simpa using hl)] at e; cases e
    · rw [List.getElem?_set_ne hv] at e
      rcases List.mem_cons.mp h with e1 | h
      · exact hv e1.symm
      · exact wipeE_none h e
theorem EnvR.other {L : List It} (h : EnvR env σ L) : ∀ {σ' : L2.St}, σ'.length = σ.length → (∀ (i : Nat) (o : O), env[i]? = some (some o) → σ'[i]? = σ[i]?) → EnvR env σ' L := by
  induction h with
  | nil =>
    intro σ' hl _
    cases σ' with
    | nil => exact .nil
    | cons => cases hl
  | no h ih =>
    intro σ' hl k
    cases σ' with
    | nil => cases hl
    | cons x σ' => exact .no (ih (by simpa using hl) fun i o e => by simpa using k (i + 1) o (by simpa using e))
  | @yes env σ L o v h ih =>
    intro σ' hl k
    cases σ' with
    | nil => cases hl
    | cons x σ' =>
      have e : some x = some (some v) := k 0 o rfl
      have e := Option.some.inj e
      subst e
      exact .yes (ih (by simpa using hl) fun i o e => by simpa using k (i + 1) o (by simpa using e))
theorem wipe_out : ∀ {l : List Nat} {i : Nat}, i ∉ l → (L2.wipe σ l)[i]? = σ[i]?
  | [], i, _ => rfl
  | v :: vs, i, h => by
    rw [L2.wipe, List.getElem?_set_ne (fun e => h (by rw [e]; exact List.mem_cons_self)), wipe_out fun z => h (List.mem_cons_of_mem _ z)]
theorem wipe_in : ∀ {l : List Nat} {i : Nat}, i ∈ l → i < σ.length → (L2.wipe σ l)[i]? = some none
  | v :: vs, i, h, hl => by
    rw [L2.wipe]
    by_cases hv : v = i
    · subst hv
      rw [List.getElem?_set_self (by rw [L2.wipe_length]; exact hl)]
    · rw [List.getElem?_set_ne hv]
      rcases List.mem_cons.mp h with e1 | h
      · exact absurd e1.symm hv
      · exact wipe_in h hl
theorem wipe_eq {own A : List Nat} (k : Kp A (L2.wipe σ own) σ') (h : ∀ i ∈ A, i ∈ own) : L2.wipe σ' own = L2.wipe σ own := by
  have hl : σ'.length = σ.length := k.1.trans (L2.wipe_length _ _)
  refine List.ext_getElem? fun i => ?_
  by_cases hi : i ∈ own
  · by_cases hn : i < σ.length
    · rw [wipe_in hi hn, wipe_in hi (by rw [hl]; exact hn)]
    · rw [List.getElem?_eq_none (by rw [L2.wipe_length]; omega), List.getElem?_eq_none (by rw [L2.wipe_length]; omega)]
  · rw [wipe_out hi, wipe_out hi, k.2 i fun z => hi (h i z), wipe_out hi]
/-- back from a block: the block's own slots hold nothing -/
theorem RS.unwipe {own : List Nat} (h : RS K H env (L2.wipe σ own) T) (hn : ∀ i ∈ own, ∀ o, env[i]? ≠ some (some o)) : RS K H env σ T := by
  obtain ⟨L, hE, hS⟩ := h
  refine ⟨L, hE.other (by rw [L2.wipe_length]) fun i o e => ?_, hS⟩
  rw [wipe_out fun z => hn i z o e]
end
section
variable {Γ : Gm} {tg iter elt : Expr} {ifs : List Expr} {scope : Scope} {pos : Pos} {src : M (List D)} {g : D → M Unit} {t : M Bool} {me : M O} {A : List Nat} {own : List (Str × Nat)}
structure Sts (Γ : Gm) (ifs : List Expr) (m : M Bool) : Prop where
  run : ∀ X, Γ.Ok X → ∀ env b env', m env = some (b, env') → ∀ σ H T, RS Γ.cfg.K H env σ T → ∀ Q : Bool → Hp → Prop, (∀ H', RS Γ.cfg.K H' env' σ T → Q b H') → ∃ t, PTs X ifs t ∧ t σ H Q
theorem sts_nil : Sts Γ [] tYes := ⟨fun X ok env b env' hm σ H T hr Q q => by
  have e1 := Option.some.inj (show some (true, env) = some (b, env') from hm)
  injection e1 with e1 e2
  subst e1 e2
  exact ⟨L2.tYes, pts_nil, q H hr⟩⟩
theorem sts_one {c : Expr} (h : SdT Γ c t) : Sts Γ [c] t := ⟨fun X ok env b env' hm σ H T hr Q q => ⟨_, pts_one (pt_best X c), h.run X ok env b env' hm σ H T hr Q q⟩⟩
def blkFact (Γ : Gm) (scope : Scope) (own : List (Str × Nat)) : Bool := blkC Γ.N { kind := .function, names := Γ.sc, isGenerator := false, isCoroutine := false, more := [] } scope own
theorem blk_ok {X : Cx} (ok : Γ.Ok X) (h : blkFact Γ scope own = true) : BlkOk X.N X.env.scope scope own := by
  have b := blkOk_by h
  rw [ok.hN]
  exact ⟨b.kind, b.uniq, b.ix, fun y hy e => by rw [ok.hsc]; exact b.free y hy e, b.own⟩
theorem lcL_cons {ow : List Nat} {d : D} {ds : List D} {env : Env} {r : List O × Env} (h : lcL ow g t me (d :: ds) env = some r) : ∃ s1 k s2, g d env = some ((), s1) ∧ t s1 = some (k, s2) ∧
    ((k = true ∧ ∃ o s3 l s4, me s2 = some (o, s3) ∧ lcL ow g t me ds (wipeE s3 ow) = some (l, s4) ∧ r = (o :: l, s4)) ∨ (k = false ∧ lcL ow g t me ds (wipeE s2 ow) = some r)) := by
  rw [lcL] at h
  obtain ⟨_, s1, h1, h2⟩ := mbind_some h
  obtain ⟨k, s2, h3, h4⟩ := mbind_some h2
  refine ⟨s1, k, s2, h1, h3, ?_⟩
  cases k with
  | true =>
    rw [if_pos rfl] at h4
    obtain ⟨o, s3, h5, h6⟩ := mbind_some h4
    obtain ⟨_, s3', h7, h8⟩ := mbind_some h6
    have e1 := Option.some.inj (show some ((), wipeE s3 ow) = some ((), s3') from h7)
    injection e1 with _ e1
    subst e1
    obtain ⟨l, s4, h9, h10⟩ := mbind_some h8
    exact .inl ⟨rfl, o, s3, l, s4, h5, h9, (Option.some.inj (show some (o :: l, s4) = some r from h10)).symm⟩
  | false =>
    rw [if_neg Bool.false_ne_true] at h4
    obtain ⟨_, s3', h7, h8⟩ := mbind_some h4
    have e1 := Option.some.inj (show some ((), wipeE s2 ow) = some ((), s3') from h7)
    injection e1 with _ e1
    subst e1
    exact .inr ⟨rfl, h8⟩
theorem mLc_some {ow : List Nat} {env : Env} {r : O × Env} (h : mLc ow src g t me env = some r) : ∃ ds s1 l s2, src env = some (ds, s1) ∧ lcL ow g t me ds (wipeE s1 ow) = some (l, s2) ∧ l.length ≤ sizeLine ∧ r = (.lst l, s2) := by
  obtain ⟨ds, s1, h1, h2⟩ := mbind_some h
  obtain ⟨_, s1', h3, h4⟩ := mbind_some h2
  have e1 := Option.some.inj (show some ((), wipeE s1 ow) = some ((), s1') from h3)
  injection e1 with _ e1
  subst e1
  obtain ⟨l, s2, h5, h6⟩ := mbind_some h4
  by_cases hl : l.length ≤ sizeLine
  · rw [if_pos hl] at h6
    exact ⟨ds, s1, l, s2, h1, h5, hl, (Option.some.inj (show some (O.lst l, s2) = some r from h6)).symm⟩
  · rw [if_neg hl] at h6; cases h6
/-- the readings within the block, whatever block it is -/
def gAll (Γ : Gm) (tg : Expr) : TG := fun v σ H Q => ∀ X, Γ.Ok X → WG X tg v σ H Q
def tAll (Γ : Gm) (ifs : List Expr) : TT := fun σ H Q => ∀ X, Γ.Ok X → ∃ t, PTs X ifs t ∧ t σ H Q
def eAll (Γ : Gm) (e : Expr) : TE := fun σ H Q => ∀ X, Γ.Ok X → WE X e σ H Q
theorem pg_all {X : Cx} (ok : Γ.Ok X) : PG X tg (gAll Γ tg) := ⟨fun pins s σ H v u Q I r h => (pg_best X tg).run pins s σ H v u Q I r (h X ok)⟩
theorem pts_all {X : Cx} (ok : Γ.Ok X) : PTs X ifs (tAll Γ ifs) := ⟨fun pins s σ H Q I h => by
  obtain ⟨t, h1, h2⟩ := h X ok
  exact h1.run pins s σ H Q I h2⟩
theorem pe_all {X : Cx} (ok : Γ.Ok X) : PE X elt (eAll Γ elt) := ⟨fun pins s σ H Q I h => (pe_best X elt).run pins s σ H Q I (h X ok)⟩
theorem append_rs {K : PySem.W.Frag} {H : Hp} {env : Env} {σ : L2.St} {T : List It} {os : List O} {Dl : Addr} {o : O} {y : V} (h : RS K H env σ (.rep o y :: .rep (.lst os) (.ref Dl) :: T)) :
    ∃ acc, H Dl = some (.lst acc) ∧ acc.length = os.length ∧ RS K (upd H Dl (.lst (acc ++ [y]))) env σ (.rep (.lst (os ++ [o])) (.ref Dl) :: T) := by
  obtain ⟨L, hE, hS⟩ := h
  have hS1 : St K H (.rep (.lst os) (.ref Dl) :: (.rep o y :: (T ++ L))) := hS.perm (.swap _ _ _)
  obtain ⟨a, vs, e1, hl, h2⟩ := hS1.open_lst
  cases e1
  refine ⟨vs, h2.raw_at, hl.symm, L, hE, ?_⟩
  have h3 := h2.write (u' := .lst (vs ++ [y]))
  show St K _ (.rep (.lst (os ++ [o])) (.ref Dl) :: (T ++ L))
  refine St.close_lst (os := os ++ [o]) (L := T ++ L) (vs := vs ++ [y]) (by simp [hl]) ?_
  refine h3.perm (.cons _ ?_)
  have key : ∀ (os : List O) (vs : List V), os.length = vs.length → reps (os ++ [o]) (vs ++ [y]) = reps os vs ++ [.rep o y] := by
    intro os
    induction os with
    | nil =>
      intro vs h
      cases vs with
      | nil => rfl
      | cons => cases h
    | cons a os ih =>
      intro vs h
      cases vs with
      | nil => cases h
      | cons b vs =>
        show .rep a b :: reps (os ++ [o]) (vs ++ [y]) = .rep a b :: (reps os vs ++ [.rep o y])
        rw [ih vs (by simpa using h)]
  rw [key os vs hl, List.append_assoc]
  exact .refl _
/-- the reading of a comprehension -/
theorem lc_read (hi : Si Γ tg iter src) (hk : scope.kind = .function) (hg : Sg (Γ.blk scope) tg g A) (ht : Sts (Γ.blk scope) ifs t) (he : Sd (Γ.blk scope) elt me) (hA : ∀ i ∈ A, i ∈ own.map (·.2))
    {X : Cx} (ok : Γ.Ok X) {env : Env} {o : O} {env' : Env} (hm : mLc (own.map (·.2)) src g t me env = some (o, env')) {σ : L2.St} {H : Hp} {T : List It} (hr : RS Γ.cfg.K H env σ T) {Q : VK}
    (q : ∀ v H', RS Γ.cfg.K H' env' σ (.rep o v :: T) → Q v H') : tLc (WIt X tg iter) (gAll (Γ.blk scope) tg) (tAll (Γ.blk scope) ifs) (eAll (Γ.blk scope) elt) (own.map (·.2)) σ H Q := by
  obtain ⟨ds, s1, l, s2, h1, h2, hl, e1⟩ := mLc_some hm
  injection e1 with e1 e2
  subst e1 e2
  generalize hw : own.map (·.2) = ow at *
  refine hi.run X ok env ds s1 h1 σ H T hr _ fun J H1 TI wk r1 => ?_
  intro Dl hD
  refine ⟨fun i n H' => n = ds.length - i ∧ i ≤ ds.length ∧ ∃ s acc rest, RS Γ.cfg.K H' s (L2.wipe σ ow) (.rep (.lst acc) (.ref Dl) :: (TI ++ T)) ∧ (∀ i ∈ ow, ∀ o, s[i]? ≠ some (some o)) ∧ lcL ow g t me (ds.drop i) s = some (rest, env') ∧ acc ++ rest = l,
    ⟨ds.length, rfl, Nat.zero_le _, wipeE s1 ow, [], l, ?_, fun i hi o => wipeE_none hi, h2, rfl⟩, ?_⟩
  · refine RS.lift (fun L h => ?_) (r1.wipe ow)
    exact St.close_lst (os := []) (vs := []) rfl (St.alloc hD h)
  rintro i n H2 ⟨rfl, hle, s, acc, rest, r2, hn, h3, ha⟩
  by_cases hlt : i < ds.length
  · right
    obtain ⟨L, hE, hS⟩ := id r2
    have hS' : St Γ.cfg.K H2 (TI ++ (.rep (.lst acc) (.ref Dl) :: (T ++ L))) := by
      refine hS.perm ?_
      show (It.rep (.lst acc) (.ref Dl) :: (TI ++ T ++ L)).Perm _
      rw [List.append_assoc]
      exact List.perm_middle.symm
    refine ⟨wk.go i H2 _ hlt hS', fun H' => ∃ s acc rest, RS Γ.cfg.K H' s (L2.wipe σ ow) (.rep (.lst acc) (.ref Dl) :: (TI ++ T)) ∧ (∀ i ∈ ow, ∀ o, s[i]? ≠ some (some o)) ∧ lcL ow g t me (ds.drop (i + 1)) s = some (rest, env') ∧ acc ++ rest = l,
      fun H' hN => ⟨ds.length - (i + 1), by omega, rfl, hlt, hN⟩, fun x H' hy => ?_⟩
    have hS2 := wk.yld i H2 _ x H' hlt hS' hy
    have r3 : RS Γ.cfg.K H' s (L2.wipe σ ow) (.rep (.d ds[i]) x :: .rep (.lst acc) (.ref Dl) :: (TI ++ T)) := ⟨L, hE, hS2.perm (.cons _ (by
      show (TI ++ (It.rep (.lst acc) (.ref Dl) :: (T ++ L))).Perm (It.rep (.lst acc) (.ref Dl) :: (TI ++ T ++ L))
      rw [List.append_assoc]
      exact List.perm_middle))⟩
    rw [List.drop_eq_getElem_cons hlt] at h3
    obtain ⟨s3, k, s4, g1, g2, g3⟩ := lcL_cons h3
    -- what may be said of the turn in any block
    intro X' ok'
    refine hg.run X' ok' s ds[i] s3 g1 _ H' _ x r3 _ fun σ3 H3 r4 k3 => ⟨wipe_eq k3 hA, ?_⟩
    intro X2 ok2
    refine ht.run X2 ok2 s3 k s4 g2 σ3 H3 _ r4 _ fun H4 r5 => ?_
    rcases g3 with ⟨rfl, y, s5, l', s6, f1, f2, f3⟩ | ⟨rfl, f1⟩
    · injection f3 with f3 f4
      subst f3 f4
      rw [if_pos rfl]
      intro X3 ok3
      refine he.run X3 ok3 s4 y s5 f1 σ3 H4 _ r5 _ fun v H5 r6 => ?_
      obtain ⟨vs, q1, q2, q3⟩ := append_rs r6
      refine ⟨vs, q1, ?_, wipeE s5 ow, acc ++ [y], l', ?_, fun i hi o => wipeE_none hi, f2, by rw [List.append_assoc]; exact ha⟩
      · rw [q2]
        have z : (acc ++ y :: l').length ≤ sizeLine := by rw [ha]; exact hl
        rw [List.length_append, List.length_cons] at z
        omega
      · rw [← wipe_eq k3 hA]
        exact q3.wipe ow
    · rw [if_neg Bool.false_ne_true]
      refine ⟨wipeE s4 ow, acc, rest, ?_, fun i hi o => wipeE_none hi, f1, ha⟩
      rw [← wipe_eq k3 hA]
      exact r5.wipe ow
  · left
    have e : i = ds.length := by omega
    subst e
    rw [List.drop_length] at h3
    have e1 := Option.some.inj (show some (([] : List O), s) = some (rest, env') from h3)
    injection e1 with e1 e2
    subst e1 e2
    rw [List.append_nil] at ha
    subst ha
    obtain ⟨L, hE, hS⟩ := id r2
    have hS' : St Γ.cfg.K H2 (TI ++ (.rep (.lst acc) (.ref Dl) :: (T ++ L))) := by
      refine hS.perm ?_
      show (It.rep (.lst acc) (.ref Dl) :: (TI ++ T ++ L)).Perm _
      rw [List.append_assoc]
      exact List.perm_middle.symm
    refine ⟨wk.stop H2 _ hS', q _ H2 ?_⟩
    refine RS.unwipe (own := ow) ?_ hn
    exact r2.lift fun L h => h.sub (.cons₂ _ (by show (T ++ L).Sublist (TI ++ T ++ L); rw [List.append_assoc]; exact List.sublist_append_right _ _))
theorem sd_lc (hi : Si Γ tg iter src) (hk : scope.kind = .function) (hg : Sg (Γ.blk scope) tg g A) (ht : Sts (Γ.blk scope) ifs t) (he : Sd (Γ.blk scope) elt me) (hA : ∀ i ∈ A, i ∈ own.map (·.2)) (hb : blkFact Γ scope own = true) (nd : Γ.N.Nodup)
    (hs : ∀ (env : PySem.Env) x, foldedSetIterable iter env x = pure x := by intro _ _; rfl) : Sd Γ (.ListComp elt [⟨tg, iter, ifs, 0⟩] scope pos) (mLc (own.map (·.2)) src g t me) := ⟨fun X ok env o env' hm σ H T hr Q q => by
  refine ⟨_, pe_lc (own := own) ok.calm (by rw [ok.hN]; exact nd) (pi_best X tg iter) (blk_ok ok hb) (fun s H C cl fp => pg_all (ok.blk hk)) (fun s H C cl fp => pts_all (ok.blk hk)) (fun s H C cl fp => pe_all (ok.blk hk)) (hs X.env), ?_⟩
  exact lc_read hi hk hg ht he hA ok hm hr q⟩
theorem ss_setLc {i : Nat} {y : Str} {py spos : Pos} (hi : Si Γ tg iter src) (hk : scope.kind = .function) (hg : Sg (Γ.blk scope) tg g A) (ht : Sts (Γ.blk scope) ifs t) (he : Sd (Γ.blk scope) elt me) (hA : ∀ i ∈ A, i ∈ own.map (·.2)) (hb : blkFact Γ scope own = true) (nd : Γ.N.Nodup)
    (hN : Γ.N[i]? = some y) (hy : Γ.sc.lookup y = some .local) (hl : (py.line == pos.line) = true) (ha : (scope.names.any fun (n, k) => n == y && (k == .local || k == .cell)) = false)
    (hs : ∀ (env : PySem.Env) x, foldedSetIterable iter env x = pure x := by intro _ _; rfl) : Ss Γ (.Assign [.Name y py] (.ListComp elt [⟨tg, iter, ifs, 0⟩] scope pos) spos) (sSet i (mLc (own.map (·.2)) src g t me)) [i] := ⟨fun X ok env fl env' hm σ H T hr D q => by
  obtain ⟨o, s1, h1, h2⟩ := mbind_some hm
  obtain ⟨_, s2, h3, h4⟩ := mbind_some h2
  have e1 := Option.some.inj (show some (Fl.nx, s2) = some (fl, env') from h4)
  injection e1 with e1 e2
  subst e1 e2
  obtain ⟨g1, g2⟩ := mset_some h3
  have g2 : s2 = s1.set i (some (.d o.toD)) := g2
  subst g2
  have hyl : X.env.scope.names.lookup y = some .local := by rw [ok.hsc]; exact hy
  refine ⟨_, ps_setLc (own := own) ok.calm (by rw [ok.hN]; exact nd) (by rw [ok.hN]; exact hN) hyl (sw_true ok.hkd hyl hl ha) (pi_best X tg iter) (blk_ok ok hb) (fun s H C cl fp => pg_all (ok.blk hk)) (fun s H C cl fp => pts_all (ok.blk hk)) (fun s H C cl fp => pe_all (ok.blk hk)) (hs X.env), ?_⟩
  exact lc_read hi hk hg ht he hA ok h1 hr fun v H' r => q _ H' (r.freeze.put g1) Kp.set⟩
end
end BM
set_option Elab.async false
set_option linter.all false
set_option maxRecDepth 100000
set_option maxHeartbeats 4000000
namespace BM
open PySem PySem.Spec PyProof.Rows L2
variable [Tb]
/-- what stands in the parameters' slots: owned where io says so -/
def inE : List Bool → List O → Env
  | b :: io, o :: os => some (if b = true then o else .d o.toD) :: inE io os
  | _, _ => []
def envIts : List Bool → List O → List V → List It
  | b :: io, o :: os, v :: vs => .rep (if b = true then o else .d o.toD) v :: envIts io os vs
  | _, _, _ => []
def keepIts : List Bool → List O → List V → List It
  | b :: io, o :: os, v :: vs => (if b = true then [] else [.rep (.d o.toD) v]) ++ keepIts io os vs
  | _, _, _ => []
def outsM : List Bool → List O → Nat → Env → Option (List O)
  | b :: io, o :: os, j, s => if b = true then (match s[j]? with
      | some (some o') => match outsM io os (j + 1) s with
        | some l => some (o' :: l)
        | none => none
      | _ => none)
    else (match outsM io os (j + 1) s with
      | some l => some (.d o.toD :: l)
      | none => none)
  | [], [], _, _ => some []
  | _, _, _, _ => none
/-- parameters first, then n more names -/
def callM (io : List Bool) (n : Nat) (body : M Fl) (os : List O) : Option (O × List O) := if os.length = io.length then (match body (inE io os ++ List.replicate n none) with
  | some (.rt o, s) => match outsM io os 0 s with
    | some outs => some (o, outs)
    | none => none
  | some (.nx, s) => match outsM io os 0 s with
    | some outs => some (.d .non, outs)
    | none => none
  | _ => none) else none
/-- what a def promises -/
def spOf (K : PySem.W.Frag) (np : Nat) (f : List O → Option (O × List O)) : Sp := fun vs H Q _ => ∃ T os r outs, f os = some (r, outs) ∧ os.length = np ∧ vs.length = np ∧ outs.length = np ∧ St K H (reps os vs ++ T) ∧
  ∀ v H', St K H' (.rep r v :: (reps outs vs ++ T)) → Q v H'
section
variable {K : PySem.W.Frag} {H : Hp}
theorem in_its : ∀ {io : List Bool} {os : List O} {vs : List V} {T : List It}, os.length = io.length → vs.length = io.length → St K H (reps os vs ++ T) → St K H (envIts io os vs ++ (keepIts io os vs ++ T))
  | [], [], [], _, _, _, h => h
  | b :: io, o :: os, v :: vs, T, l1, l2, h => by
    have h1 : St K H (reps os vs ++ (.rep o v :: T)) := (show St K H (.rep o v :: (reps os vs ++ T)) from h).perm List.perm_middle.symm
    have h2 := in_its (io := io) (by simpa using l1) (by simpa using l2) h1
    cases b with
    | true =>
      show St K H (.rep o v :: (envIts io os vs ++ (keepIts io os vs ++ T)))
      refine h2.perm ?_
      rw [← List.append_assoc, ← List.append_assoc]
      exact List.perm_middle
    | false =>
      show St K H (.rep (.d o.toD) v :: (envIts io os vs ++ ([.rep (.d o.toD) v] ++ keepIts io os vs ++ T)))
      have h3 : St K H (.rep o v :: (envIts io os vs ++ (keepIts io os vs ++ T))) := h2.perm (by
        rw [← List.append_assoc, ← List.append_assoc]
        exact List.perm_middle)
      have h4 := h3.freeze.dup
      refine h4.perm (.cons _ ?_)
      rw [List.append_assoc]
      exact List.perm_middle.symm
  | [], _ :: _, _, _, l1, _, _ => by cases l1
  | [], [], _ :: _, _, _, l2, _ => by cases l2
  | _ :: _, [], _, _, l1, _, _ => by cases l1
  | _ :: _, _ :: _, [], _, _, l2, _ => by cases l2
theorem env_start : ∀ {io : List Bool} {os : List O} {vs : List V} {n : Nat}, os.length = io.length → vs.length = io.length → EnvR (inE io os ++ List.replicate n none) (vs.map some ++ List.replicate n none) (envIts io os vs)
  | [], [], [], n, _, _ => by
    show EnvR (List.replicate n none) (List.replicate n none) []
    induction n with
    | zero => exact .nil
    | succ n ih => exact .no ih
  | b :: io, o :: os, v :: vs, n, l1, l2 => .yes (env_start (by simpa using l1) (by simpa using l2))
  | [], _ :: _, _, _, l1, _ => by cases l1
  | [], [], _ :: _, _, _, l2 => by cases l2
  | _ :: _, [], _, _, l1, _ => by cases l1
  | _ :: _, _ :: _, [], _, _, l2 => by cases l2
theorem outsM_set : ∀ {io : List Bool} {os : List O} {j i : Nat} {s : Env} {x : Option O}, i < j → outsM io os j (s.set i x) = outsM io os j s
  | [], [], _, _, _, _, _ => rfl
  | b :: io, o :: os, j, i, s, x, h => by
    rw [outsM, outsM, outsM_set (Nat.lt_succ_of_lt h), List.getElem?_set_ne (Nat.ne_of_lt h)]
  | [], _ :: _, _, _, _, _, _ => rfl
  | _ :: _, [], _, _, _, _, _ => rfl
theorem outsM_len : ∀ {io : List Bool} {os : List O} {j : Nat} {s : Env} {l : List O}, outsM io os j s = some l → l.length = os.length
  | [], [], _, _, l, h => by
    have e := Option.some.inj (show some [] = some l from h)
    subst e; rfl
  | b :: io, o :: os, j, s, l, h => by
    rw [outsM] at h
    cases b with
    | true =>
      rw [if_pos rfl] at h
      cases q : s[j]? with
      | none => simp only [q] at h; cases h
      | some y =>
        cases y with
        | none => simp only [q] at h; cases h
        | some o' =>
          simp only [q] at h
          cases q2 : outsM io os (j + 1) s with
          | none => simp only [q2] at h; cases h
          | some l' =>
            simp only [q2] at h
            have e := Option.some.inj h
            subst e
            rw [List.length_cons, List.length_cons, outsM_len q2]
    | false =>
      rw [if_neg Bool.false_ne_true] at h
      cases q2 : outsM io os (j + 1) s with
      | none => simp only [q2] at h; cases h
      | some l' =>
        simp only [q2] at h
        have e := Option.some.inj h
        subst e
        rw [List.length_cons, List.length_cons, outsM_len q2]
  | [], _ :: _, _, _, _, h => by cases h
  | _ :: _, [], _, _, _, h => by cases h
theorem out_its {σ : L2.St} : ∀ {io : List Bool} {os : List O} {vs : List V} {T Y : List It} {j : Nat} {s : Env} {outs : List O}, outsM io os j s = some outs → vs.length = io.length → (∀ (k : Nat), io[k]? = some true → σ[j + k]? = vs[k]?.map some) →
    RS K H s σ (Y ++ (keepIts io os vs ++ T)) → ∃ s', RS K H s' σ (Y ++ (reps outs vs ++ T))
  | [], [], [], T, Y, j, s, outs, h, _, _, r => by
    have e := Option.some.inj (show some [] = some outs from h)
    subst e
    exact ⟨s, r⟩
  | b :: io, o :: os, v :: vs, T, Y, j, s, outs, h, hl, hσ, r => by
    rw [outsM] at h
    cases b with
    | true =>
      rw [if_pos rfl] at h
      cases q : s[j]? with
      | none => simp only [q] at h; cases h
      | some y =>
        cases y with
        | none => simp only [q] at h; cases h
        | some o' =>
          simp only [q] at h
          cases q2 : outsM io os (j + 1) s with
          | none => simp only [q2] at h; cases h
          | some l' =>
            simp only [q2] at h
            have e := Option.some.inj h
            subst e
            have hv := hσ 0 rfl
            rw [Nat.add_zero] at hv
            have r' : RS K H s σ (Y ++ (keepIts io os vs ++ T)) := r
            obtain ⟨v', g1, g2⟩ := r'.take q
            rw [hv] at g1
            have e := Option.some.inj (Option.some.inj (show some (some v) = some (some v') from g1))
            subst e
            obtain ⟨s', r2⟩ := out_its (io := io) (os := os) (vs := vs) (T := T) (Y := .rep o' v :: Y) (j := j + 1) (s := s.set j none) (by rw [outsM_set (Nat.lt_succ_self _)]; exact q2) (by simpa using hl)
              (fun k hk => by
                have := hσ (k + 1) hk
                rw [show j + 1 + k = j + (k + 1) by omega, this]; rfl) g2
            exact ⟨s', r2.perm List.perm_middle.symm⟩
    | false =>
      rw [if_neg Bool.false_ne_true] at h
      cases q2 : outsM io os (j + 1) s with
      | none => simp only [q2] at h; cases h
      | some l' =>
        simp only [q2] at h
        have e := Option.some.inj h
        subst e
        have r' : RS K H s σ ((.rep (.d o.toD) v :: Y) ++ (keepIts io os vs ++ T)) := r.perm List.perm_middle
        obtain ⟨s', r2⟩ := out_its (io := io) (os := os) (vs := vs) (T := T) (Y := .rep (.d o.toD) v :: Y) (j := j + 1) q2 (by simpa using hl) (fun k hk => by
          have := hσ (k + 1) hk
          rw [show j + 1 + k = j + (k + 1) by omega, this]; rfl) r'
        exact ⟨s', r2.perm List.perm_middle.symm⟩
  | [], _ :: _, _, _, _, _, _, _, h, _, _, _ => by cases h
  | _ :: _, [], _, _, _, _, _, _, h, _, _, _ => by cases h
  | [], [], _ :: _, _, _, _, _, _, _, hl, _, _ => by cases hl
  | _ :: _, _ :: _, [], _, _, _, _, _, _, hl, _, _ => by cases hl
end
def noIo (A : List Nat) (io : List Bool) : Bool := A.all fun i => match io[i]? with
  | some true => false
  | _ => true
/-- THE RULE of a def -/
theorem fn_okL {lb : Option (Value × Str)} {cfg : Cfg} {name qual : Str} {st : Stmt} {f : Addr} {fd : FuncData} {N ps : List Str} {k n : Nat} {io : List Bool} {m : M Fl} {A : List Nat} (F : Fun cfg.K name qual st f fd) (S : FnScope N ps (defScope st))
    (hb : Sb ⟨cfg, N, (defScope st).names, fun _ => true, k, lb⟩ (defBody st) m A) (hio : io.length = ps.length := by decide) (hN : N.length = io.length + n := by decide) (hA : noIo A io = true := by decide)
    (hlb : ∀ p, lb = some p → fd.code = p.1 ∧ qual ++ ".<locals>." = p.2 := by intro p e; cases e) :
    FnG cfg (k + 1) f fd ps (spOf cfg.K io.length (callM io n m)) := by
  refine fnG_of F S (fun vs H Q E h => ?_) (fun cdv hcd A' outer s H vs Q E hr hgd h => ?_)
  · obtain ⟨T, os, r, outs, _, _, h2, _⟩ := h
    rw [h2, hio]
  · obtain ⟨T, os, r, outs, h1, h2, h3, h4, hS, q⟩ := h
    refine ⟨_, pss_best _ _, ?_⟩
    have ok : Gm.Ok ⟨cfg, N, (defScope st).names, fun _ => true, k, lb⟩ (cxOf CX0 cfg.P cfg.w cfg.K cfg.mg cfg.base N qual (defScope st) f cdv A' outer s H E).nox :=
      ⟨rfl, rfl, rfl, rfl, rfl, rfl, rfl, S.kind, rfl, rfl, hr, rfl, hgd, fun p e => ⟨hcd.symm.trans (hlb p e).1, (hlb p e).2⟩⟩
    unfold callM at h1
    rw [if_pos h2] at h1
    have hst : L2.start N vs = vs.map some ++ List.replicate n none := by
      unfold L2.start
      rw [hN, h3, Nat.add_sub_cancel_left]
    rw [hst]
    have r0 : RS cfg.K H (inE io os ++ List.replicate n none) (vs.map some ++ List.replicate n none) (keepIts io os vs ++ T) :=
      ⟨_, env_start h2 h3, (in_its h2 h3 hS).perm List.perm_append_comm⟩
    have fin : ∀ {o : O} {s' : Env} {v : V} {σ' : L2.St} {H' : Hp} {outs' : List O}, outsM io os 0 s' = some outs' → Kp A (vs.map some ++ List.replicate n none) σ' → RS cfg.K H' s' σ' (.rep o v :: (keepIts io os vs ++ T)) → St cfg.K H' (.rep o v :: (reps outs' vs ++ T)) := by
      intro o s' v σ' H' outs' e kp r
      obtain ⟨s2, L, hE, hS'⟩ := out_its (Y := [.rep o v]) (j := 0) (σ := σ') e h3 (fun k hk => by
        rw [Nat.zero_add]
        have hkA : k ∉ A := fun hm => by
          unfold noIo at hA
          have z := List.all_eq_true.mp hA k hm
          rw [hk] at z; cases z
        rw [kp.2 k hkA]
        have hlt : k < vs.length := by
          rw [h3]
          exact (List.getElem?_eq_some_iff.mp hk).1
        rw [List.getElem?_append_left (by simpa using hlt), List.getElem?_map]) r
      refine hS'.sub ?_
      show (It.rep o v :: (reps outs' vs ++ T)).Sublist ((It.rep o v :: (reps outs' vs ++ T)) ++ L)
      exact List.sublist_append_left _ _
    cases q1 : m (inE io os ++ List.replicate n none) with
    | none => rw [q1] at h1; cases h1
    | some p =>
      obtain ⟨fl, s'⟩ := p
      rw [q1] at h1
      refine hb.run _ ok _ fl s' q1 _ H _ r0 _ ?_
      cases fl with
      | nx =>
        simp only at h1
        cases q2 : outsM io os 0 s' with
        | none => simp only [q2] at h1; cases h1
        | some outs' =>
          simp only [q2] at h1
          have e1 := Option.some.inj h1
          injection e1 with e1 e2
          subst e1 e2
          exact fun σ' H' r' kp => q .non H' (fin q2 kp (r'.lift fun L h => h.flat rfl))
      | bk => cases h1
      | ct => cases h1
      | rt o =>
        simp only at h1
        cases q2 : outsM io os 0 s' with
        | none => simp only [q2] at h1; cases h1
        | some outs' =>
          simp only [q2] at h1
          have e1 := Option.some.inj h1
          injection e1 with e1 e2
          subst e1 e2
          exact fun v σ' H' r' kp => q v H' (fin q2 kp r')
theorem fn_ok {cfg : Cfg} {name qual : Str} {st : Stmt} {f : Addr} {fd : FuncData} {N ps : List Str} {k n : Nat} {io : List Bool} {m : M Fl} {A : List Nat} (F : Fun cfg.K name qual st f fd) (S : FnScope N ps (defScope st))
    (hb : Sb ⟨cfg, N, (defScope st).names, fun _ => true, k, none⟩ (defBody st) m A) (hio : io.length = ps.length := by decide) (hN : N.length = io.length + n := by decide) (hA : noIo A io = true := by decide) :
    FnG cfg (k + 1) f fd ps (spOf cfg.K io.length (callM io n m)) := fn_okL (lb := none) F S hb hio hN hA
def Ar.its : Ar → V → List It
  | .val o, v => [.rep o v]
  | .plc _, _ => []
def Ar.at (σ : L2.St) : Ar → V → Prop
  | .val _, _ => True
  | .plc i, v => σ[i]? = some (some v)
structure Sar1 (Γ : Gm) (e : Expr) (m : M Ar) : Prop where
  run : ∀ X, Γ.Ok X → ∀ env a env', m env = some (a, env') → ∀ σ H T, RS Γ.cfg.K H env σ T → ∀ Q : VK, (∀ v H', RS Γ.cfg.K H' env' σ (a.its v ++ T) → a.at σ v → Q v H') → WE X e σ H Q
structure Sars (Γ : Gm) (es : List Expr) (ms : List (M Ar)) : Prop where
  run : ∀ X, Γ.Ok X → ∀ env ods env', mars ms env = some (ods, env') → ∀ σ H T, RS Γ.cfg.K H env σ T → ∀ Q : List V → Hp → Prop,
    (∀ vs H', RS Γ.cfg.K H' env' σ ((List.zipWith Ar.its ods vs).flatten ++ T) → ods.length = vs.length → (∀ p ∈ ods.zip vs, p.1.at σ p.2) → Q vs H') → WL X es σ H Q
section
variable {Γ : Gm} {e : Expr} {es : List Expr} {p pos : Pos} {x : Str}
theorem sar_val {m : M O} (h : Sd Γ e m) : Sar1 Γ e (aval m) := ⟨fun X ok env a env' hm σ H T hr Q q => by
  unfold aval at hm
  cases q' : m env with
  | none => rw [q'] at hm; cases hm
  | some p =>
    obtain ⟨o, s'⟩ := p
    rw [q'] at hm
    have e1 := Option.some.inj hm
    injection e1 with e1 e2
    subst e1 e2
    exact h.run X ok env o s' q' σ H T hr Q fun v H' r => q v H' r trivial⟩
def aplc' (i : Nat) : M Ar := fun s => match s[i]? with
  | some (some _) => some (.plc i, s)
  | _ => none
theorem sar_plc (i : Nat) (hN : Γ.N[i]? = some x := by rfl) (hv : Γ.vis x = true := by kernel_rfl) (hd : (x == ("__debug__" : Str)) = false := by kernel_rfl) (hcd : (x == ("__classdict__" : Str)) = false := by kernel_rfl) : Sar1 Γ (.Name x p) (aplc' i) := ⟨fun X ok env a env' hm σ H T hr Q q => by
  unfold aplc' at hm
  cases q1 : env[i]? with
  | none => simp only [q1] at hm; cases hm
  | some y =>
    cases y with
    | none => simp only [q1] at hm; cases hm
    | some o1 =>
      simp only [q1] at hm
      have e1 := Option.some.inj hm
      injection e1 with e1 e2
      subst e1 e2
      obtain ⟨v, hs, r⟩ := hr.take q1
      exact ⟨tVar i, pe_var (by rw [ok.hN]; exact hN) (ok.vis hv) hd hcd, v, hs, q v H hr hs⟩⟩
theorem sars_nil : Sars Γ [] [] := ⟨fun X ok env ods env' hm σ H T hr Q q => by
  have e1 := Option.some.inj (show some (([] : List Ar), env) = some (ods, env') from hm)
  injection e1 with e1 e2
  subst e1 e2
  exact q [] H hr rfl fun p hp => by cases hp⟩
theorem sars_cons {m : M Ar} {ms : List (M Ar)} (h : Sar1 Γ e m) (hs : Sars Γ es ms) : Sars Γ (e :: es) (m :: ms) := ⟨fun X ok env ods env' hm σ H T hr Q q => by
  obtain ⟨a, s1, h1, h2⟩ := mbind_some (show mbind m (fun a => mbind (mars ms) fun l => mpure (a :: l)) env = _ from hm)
  obtain ⟨l, s2, h3, h4⟩ := mbind_some h2
  have e1 := Option.some.inj (show some (a :: l, s2) = some (ods, env') from h4)
  injection e1 with e1 e2
  subst e1 e2
  refine h.run X ok env a s1 h1 σ H T hr _ fun v H1 r1 at1 => ?_
  refine hs.run X ok s1 l s2 h3 σ H1 (a.its v ++ T) r1 _ fun vs H2 r2 l2 at2 => ?_
  refine q (v :: vs) H2 ?_ (by simp [l2]) fun p hp => ?_
  · refine RS.perm ?_ r2
    show ((List.zipWith Ar.its l vs).flatten ++ (a.its v ++ T)).Perm (((a.its v) :: List.zipWith Ar.its l vs).flatten ++ T)
    rw [List.flatten_cons, ← List.append_assoc, List.append_assoc (a.its v)]
    rw [← List.append_assoc]
    exact List.perm_append_comm.append_right T
  · rcases List.mem_cons.mp hp with rfl | hp
    · exact at1
    · exact at2 p hp⟩
theorem take_rs {K : PySem.W.Frag} {H : Hp} {σ : L2.St} : ∀ {ars : List Ar} {vs : List V} {s s' : Env} {os : List O} {T : List It}, takeArs ars s = some (os, s') → ars.length = vs.length → (∀ p ∈ ars.zip vs, p.1.at σ p.2) →
    RS K H s σ ((List.zipWith Ar.its ars vs).flatten ++ T) → os.length = vs.length ∧ RS K H s' σ (reps os vs ++ T)
  | [], [], s, s', os, T, h, _, _, r => by
    have e1 := Option.some.inj (show some (([] : List O), s) = some (os, s') from h)
    injection e1 with e1 e2
    subst e1 e2
    exact ⟨rfl, r⟩
  | .val o :: ars, v :: vs, s, s', os, T, h, hl, ha, r => by
    obtain ⟨l, s1, h1, h2⟩ := mbind_some (show mbind (takeArs ars) (fun l => mpure (o :: l)) s = _ from h)
    have e1 := Option.some.inj (show some (o :: l, s1) = some (os, s') from h2)
    injection e1 with e1 e2
    subst e1 e2
    have r1 : RS K H s σ ((List.zipWith Ar.its ars vs).flatten ++ (.rep o v :: T)) := r.perm (by
      show (.rep o v :: ((List.zipWith Ar.its ars vs).flatten ++ T)).Perm _
      exact List.perm_middle.symm)
    obtain ⟨l1, r2⟩ := take_rs h1 (by simpa using hl) (fun p hp => ha p (List.mem_cons_of_mem _ hp)) r1
    exact ⟨by simp [l1], r2.perm List.perm_middle⟩
  | .plc i :: ars, v :: vs, s, s', os, T, h, hl, ha, r => by
    rw [takeArs] at h
    cases q : s[i]? with
    | none => simp only [q] at h; cases h
    | some y =>
      cases y with
      | none => simp only [q] at h; cases h
      | some o =>
        simp only [q] at h
        cases q2 : takeArs ars (s.set i none) with
        | none => simp only [q2] at h; cases h
        | some p =>
          obtain ⟨l, s1⟩ := p
          simp only [q2] at h
          have e1 := Option.some.inj h
          injection e1 with e1 e2
          subst e1 e2
          have hv : σ[i]? = some (some v) := ha (.plc i, v) List.mem_cons_self
          have r0 : RS K H s σ ((List.zipWith Ar.its ars vs).flatten ++ T) := r
          obtain ⟨v', g1, g2⟩ := r0.take q
          rw [hv] at g1
          have e := Option.some.inj (Option.some.inj g1)
          subst e
          obtain ⟨l1, r2⟩ := take_rs (T := .rep o v :: T) q2 (by simpa using hl) (fun p hp => ha p (List.mem_cons_of_mem _ hp)) (g2.perm List.perm_middle.symm)
          exact ⟨by simp [l1], r2.perm List.perm_middle⟩
  | [], _ :: _, _, _, _, _, _, hl, _, _ => by cases hl
  | _ :: _, [], _, _, _, _, _, hl, _, _ => by cases hl
theorem give_rs {K : PySem.W.Frag} {H : Hp} {σ : L2.St} : ∀ {ars : List Ar} {vs : List V} {s s' : Env} {outs : List O} {Y T : List It} {u : Unit}, giveArs ars outs s = some (u, s') → ars.length = vs.length → (∀ p ∈ ars.zip vs, p.1.at σ p.2) →
    RS K H s σ (Y ++ (reps outs vs ++ T)) → RS K H s' σ (Y ++ T)
  | [], [], s, s', outs, Y, T, u, h, _, _, r => by
    cases outs with
    | nil =>
      have e1 := Option.some.inj (show some ((), s) = some (u, s') from h)
      injection e1 with e1 e2
      subst e2
      exact r
    | cons => cases h
  | .val o :: ars, v :: vs, s, s', outs, Y, T, u, h, hl, ha, r => by
    cases outs with
    | nil => cases h
    | cons o' outs =>
      have h' : giveArs ars outs s = some (u, s') := h
      have r1 : RS K H s σ (Y ++ (reps outs vs ++ T)) := (r.perm (List.perm_middle (l₁ := Y))).drop
      exact give_rs h' (by simpa using hl) (fun p hp => ha p (List.mem_cons_of_mem _ hp)) r1
  | .plc i :: ars, v :: vs, s, s', outs, Y, T, u, h, hl, ha, r => by
    cases outs with
    | nil => cases h
    | cons o' outs =>
      have h' : (if i < s.length then giveArs ars outs (s.set i (some o')) else none) = some (u, s') := h
      by_cases hi : i < s.length
      · rw [if_pos hi] at h'
        have hv : σ[i]? = some (some v) := ha (.plc i, v) List.mem_cons_self
        have r1 : RS K H s σ (.rep o' v :: (Y ++ (reps outs vs ++ T))) := r.perm List.perm_middle
        exact give_rs h' (by simpa using hl) (fun p hp => ha p (List.mem_cons_of_mem _ hp)) (r1.putSame hv)
      · rw [if_neg hi] at h'; cases h'
  | [], _ :: _, _, _, _, _, _, _, _, hl, _, _ => by cases hl
  | _ :: _, [], _, _, _, _, _, _, _, hl, _, _ => by cases hl
def permL {α : Type} (π : List Nat) (l : List α) : List α := π.filterMap fun i => l[i]?
def permF (π ρ : List Nat) (f : List O → Option (O × List O)) : List O → Option (O × List O) := fun os => match f (permL π os) with
  | some (r, outs) => some (r, permL ρ outs)
  | none => none
theorem mCall_some {f : List O → Option (O × List O)} {ms : List (M Ar)} {env : Env} {r : O × Env} (h : mCall f ms env = some r) : ∃ ars s1 os s2 o outs s3, mars ms env = some (ars, s1) ∧ takeArs ars s1 = some (os, s2) ∧ f os = some (o, outs) ∧ giveArs ars outs s2 = some ((), s3) ∧ r = (o, s3) := by
  obtain ⟨ars, s1, h1, h2⟩ := mbind_some h
  obtain ⟨os, s2, h3, h4⟩ := mbind_some h2
  cases q : f os with
  | none => simp only [q] at h4; cases h4
  | some p =>
    obtain ⟨o, outs⟩ := p
    simp only [q] at h4
    cases q2 : giveArs ars outs s2 with
    | none => simp only [q2] at h4; cases h4
    | some p2 =>
      obtain ⟨_, s3⟩ := p2
      simp only [q2] at h4
      exact ⟨ars, s1, os, s2, o, outs, s3, h1, h3, q, q2, (Option.some.inj h4).symm⟩
/-- the call itself, from the arguments' values -/
theorem call_read {cfg : Cfg} {Γ : Gm} {f : List O → Option (O × List O)} {np : Nat} {ars : List Ar} {vs : List V} {s1 s2 s3 : Env} {os outs : List O} {o : O} {σ : L2.St} {H : Hp} {T : List It} (h2 : takeArs ars s1 = some (os, s2)) (h3 : f os = some (o, outs))
    (h4 : giveArs ars outs s2 = some ((), s3)) (hl : ars.length = vs.length) (ha : ∀ p ∈ ars.zip vs, p.1.at σ p.2) (hr : RS Γ.cfg.K H s1 σ ((List.zipWith Ar.its ars vs).flatten ++ T)) (hn : vs.length = np) (ho : outs.length = np) {Q : VK} {E : XK}
    (q : ∀ v H', RS Γ.cfg.K H' s3 σ (.rep o v :: T) → Q v H') : spOf Γ.cfg.K np f vs H Q E := by
  obtain ⟨l1, L, hE, hS⟩ := take_rs h2 hl ha hr
  refine ⟨T ++ L, os, o, outs, h3, l1.trans hn, hn, ho, by rw [← List.append_assoc]; exact hS, fun v H' hS' => q v H' ?_⟩
  have r : RS Γ.cfg.K H' s2 σ ([.rep o v] ++ (reps outs vs ++ T)) := ⟨L, hE, by
    rw [← List.append_assoc] at hS'
    exact hS'⟩
  exact give_rs h4 hl ha r
end
end BM
set_option Elab.async false
set_option linter.all false
set_option maxRecDepth 100000
set_option maxHeartbeats 4000000
namespace BM
open PySem PySem.Spec PyProof.Rows L2
variable [Tb]
theorem permL_get {α : Type} {l : List α} {n : Nat} (hl : l.length = n) : ∀ {π : List Nat}, (∀ i ∈ π, i < n) → ∀ (j : Nat), (permL π l)[j]? = (π[j]?).bind fun i => l[i]?
  | [], _, j => by simp [permL]
  | i :: π, h, j => by
    have hi : i < l.length := by rw [hl]; exact h i List.mem_cons_self
    have e : permL (i :: π) l = l[i] :: permL π l := by
      unfold permL
      rw [List.filterMap_cons, List.getElem?_eq_getElem hi]
    rw [e]
    cases j with
    | zero => simp [hi]
    | succ j =>
      rw [List.getElem?_cons_succ, permL_get hl (fun k hk => h k (List.mem_cons_of_mem _ hk)) j]
      simp
theorem permL_len {α : Type} {l : List α} {n : Nat} (hl : l.length = n) : ∀ {π : List Nat}, (∀ i ∈ π, i < n) → (permL π l).length = π.length
  | [], _ => rfl
  | i :: π, h => by
    have hi : i < l.length := by rw [hl]; exact h i List.mem_cons_self
    have e : permL (i :: π) l = l[i] :: permL π l := by
      unfold permL
      rw [List.filterMap_cons, List.getElem?_eq_getElem hi]
    rw [e, List.length_cons, List.length_cons, permL_len hl fun k hk => h k (List.mem_cons_of_mem _ hk)]
theorem permL_perm {α : Type} {π ρ : List Nat} {l : List α} (p : π.Perm ρ) : (permL π l).Perm (permL ρ l) := p.filterMap _
theorem permL_range {α : Type} (l : List α) : permL (List.range l.length) l = l := by
  refine List.ext_getElem? fun j => ?_
  rw [permL_get rfl fun i hi => List.mem_range.mp hi]
  by_cases hj : j < l.length
  · rw [List.getElem?_range hj]; rfl
  · rw [List.getElem?_eq_none (by simpa using hj), List.getElem?_eq_none (by simpa using hj)]; rfl
theorem permL_inv {α : Type} {π ρ : List Nat} {n : Nat} {l : List α} (hl : l.length = n) (hπ : ∀ i ∈ π, i < n) (hn : π.length = n) (hρ : ∀ i ∈ ρ, i < n) (h : permL ρ π = List.range n) : permL ρ (permL π l) = l := by
  refine List.ext_getElem? fun j => ?_
  rw [permL_get ((permL_len hl hπ).trans hn) hρ]
  have e : (permL ρ π)[j]? = (List.range n)[j]? := congrArg (fun z : List Nat => z[j]?) h
  rw [permL_get hn hρ] at e
  cases q : ρ[j]? with
  | none =>
    rw [q] at e
    have hj : ¬ j < n := fun hj => by
      rw [List.getElem?_range hj] at e; cases e
    rw [List.getElem?_eq_none (by omega)]; rfl
  | some i =>
    rw [q] at e
    show (permL π l)[i]? = _
    rw [permL_get hl hπ]
    have e' : π[i]? = (List.range n)[j]? := e
    rw [e']
    by_cases hj : j < n
    · rw [List.getElem?_range hj]; rfl
    · rw [List.getElem?_eq_none (by simpa using hj), List.getElem?_eq_none (by omega)]; rfl
theorem reps_perm {os : List O} {vs : List V} (hl : os.length = vs.length) : ∀ {π : List Nat}, (∀ i ∈ π, i < vs.length) → reps (permL π os) (permL π vs) = permL π (reps os vs)
  | [], _ => rfl
  | i :: π, h => by
    have hi : i < vs.length := h i List.mem_cons_self
    have hi' : i < os.length := by rw [hl]; exact hi
    have e1 : permL (i :: π) os = os[i] :: permL π os := by
      unfold permL
      rw [List.filterMap_cons, List.getElem?_eq_getElem hi']
    have e2 : permL (i :: π) vs = vs[i] :: permL π vs := by
      unfold permL
      rw [List.filterMap_cons, List.getElem?_eq_getElem hi]
    have key : ∀ (os : List O) (vs : List V) (i : Nat) (h1 : i < os.length) (h2 : i < vs.length), (reps os vs)[i]? = some (.rep os[i] vs[i]) := by
      intro os
      induction os with
      | nil => intro vs i h1; cases h1
      | cons o os ih =>
        intro vs i h1 h2
        cases vs with
        | nil => cases h2
        | cons v vs =>
          cases i with
          | zero => rfl
          | succ i =>
            show (reps os vs)[i]? = _
            exact ih vs i (by simpa using h1) (by simpa using h2)
    have e3 : permL (i :: π) (reps os vs) = .rep os[i] vs[i] :: permL π (reps os vs) := by
      unfold permL
      rw [List.filterMap_cons, key os vs i hi' hi]
    rw [e1, e2, e3]
    show .rep os[i] vs[i] :: reps (permL π os) (permL π vs) = _
    rw [reps_perm hl fun k hk => h k (List.mem_cons_of_mem _ hk)]
theorem reps_len {os : List O} {vs : List V} (hl : os.length = vs.length) : (reps os vs).length = vs.length := by
  induction os generalizing vs with
  | nil =>
    cases vs with
    | nil => rfl
    | cons => cases hl
  | cons o os ih =>
    cases vs with
    | nil => cases hl
    | cons v vs =>
      show (reps os vs).length + 1 = _
      rw [ih (by simpa using hl)]; rfl
/-- π, ρ: an order of n places and its inverse -/
structure Ord (n : Nat) (π ρ : List Nat) : Prop where
  perm : π.Perm (List.range n)
  perm' : ρ.Perm (List.range n)
  inv : permL ρ π = List.range n
theorem Ord.lt {n : Nat} {π ρ : List Nat} (o : Ord n π ρ) : ∀ i ∈ π, i < n := fun i hi => List.mem_range.mp (o.perm.mem_iff.mp hi)
theorem Ord.lt' {n : Nat} {π ρ : List Nat} (o : Ord n π ρ) : ∀ i ∈ ρ, i < n := fun i hi => List.mem_range.mp (o.perm'.mem_iff.mp hi)
theorem Ord.len {n : Nat} {π ρ : List Nat} (o : Ord n π ρ) : π.length = n := by rw [o.perm.length_eq, List.length_range]
theorem Ord.len' {n : Nat} {π ρ : List Nat} (o : Ord n π ρ) : ρ.length = n := by rw [o.perm'.length_eq, List.length_range]
def ordB (n : Nat) (π ρ : List Nat) : Bool := (List.range n).all (fun i => π.count i == 1 && ρ.count i == 1) && π.all (· < n) && ρ.all (· < n) && decide (permL ρ π = List.range n) && decide (π.length = n) && decide (ρ.length = n)
theorem perm_of_count {n : Nat} {π : List Nat} (h1 : ∀ i < n, π.count i = 1) (h2 : ∀ i ∈ π, i < n) : π.Perm (List.range n) := by
  rw [List.perm_iff_count]
  intro a
  by_cases ha : a < n
  · rw [h1 a ha, List.nodup_range.count, if_pos (List.mem_range.mpr ha)]
  · rw [List.count_eq_zero.mpr (fun z => ha (h2 a z)), List.count_eq_zero.mpr (fun z => ha (List.mem_range.mp z))]
theorem ord_of {n : Nat} {π ρ : List Nat} (h : ordB n π ρ = true) : Ord n π ρ := by
  unfold ordB at h
  simp only [Bool.and_eq_true, List.all_eq_true, decide_eq_true_eq, beq_iff_eq, List.mem_range] at h
  obtain ⟨⟨⟨⟨⟨h1, h2⟩, h3⟩, h4⟩, h5⟩, h6⟩ := h
  exact ⟨perm_of_count (fun i hi => (h1 i hi).1) h2, perm_of_count (fun i hi => (h1 i hi).2) h3, h4⟩
theorem permF_some {π ρ : List Nat} {f : List O → Option (O × List O)} {os : List O} {r : O × List O} (h : permF π ρ f os = some r) : ∃ outs, f (permL π os) = some (r.1, outs) ∧ r.2 = permL ρ outs := by
  unfold permF at h
  cases q : f (permL π os) with
  | none => rw [q] at h; cases h
  | some p =>
    obtain ⟨o, outs⟩ := p
    rw [q] at h
    have e := Option.some.inj h
    subst e
    exact ⟨outs, rfl, rfl⟩
theorem sp_perm {K : PySem.W.Frag} {np : Nat} {π ρ : List Nat} {f : List O → Option (O × List O)} {vs : List V} {H : Hp} {Q : VK} {E : XK} (o : Ord np π ρ) (hlen : ∀ os r outs, f os = some (r, outs) → os.length = np → outs.length = np) (h : spOf K np (permF π ρ f) vs H Q E) : spOf K np f (permL π vs) H Q E := by
  obtain ⟨T, os, r, outs, h1, h2, h3, h4, hS, q⟩ := h
  obtain ⟨outs', g1, g2⟩ := permF_some h1
  have g2 : outs = permL ρ outs' := g2
  subst g2
  have l1 : (permL π os).length = np := (permL_len h2 o.lt).trans o.len
  have l2 : (permL π vs).length = np := (permL_len h3 o.lt).trans o.len
  have l3 := hlen _ _ _ g1 l1
  refine ⟨T, permL π os, r, outs', g1, l1, l2, l3, ?_, fun v H' hS' => q v H' ?_⟩
  · rw [reps_perm (h2.trans h3.symm) (by rw [h3]; exact o.lt)]
    refine hS.perm (List.Perm.append_right T ?_)
    refine ((permL_perm o.perm).trans ?_).symm
    have e : (reps os vs).length = np := (reps_len (h2.trans h3.symm)).trans h3
    rw [← e, permL_range]
  · refine hS'.perm (.cons _ (List.Perm.append_right T ?_))
    have e1 : reps (permL ρ outs') vs = permL ρ (reps outs' (permL π vs)) := by
      rw [← reps_perm (l3.trans l2.symm) (by rw [l2]; exact o.lt'), permL_inv h3 o.lt o.len o.lt' o.inv]
    rw [e1]
    refine ((permL_perm o.perm').trans ?_).symm
    have e : (reps outs' (permL π vs)).length = np := (reps_len (l3.trans l2.symm)).trans l2
    rw [← e, permL_range]
theorem Gm.Ok.at_ {Γ : Gm} {X : Cx} (h : Γ.Ok X) : At X Γ.cfg := ⟨h.hP, h.hw, h.hK, h.hmg, h.hbase, h.gd⟩
/-- the def x of the module, at fa: it keeps the promise of f -/
structure FnD (cfg : Cfg) (k : Nat) (x : Str) (fa : Addr) (fd : FuncData) (ps : List Str) (np : Nat) (f : List O → Option (O × List O)) : Prop where
  at_ : cfg.mg x = some (.ref fa)
  kp : PySem.W.keepIn cfg.K (.ref fa) = true
  ok : FnG cfg k fa fd ps (spOf cfg.K np f)
  len : ∀ os r outs, f os = some (r, outs) → os.length = np → outs.length = np
theorem callM_len {io : List Bool} {n : Nat} {m : M Fl} {os outs : List O} {r : O} (h : callM io n m os = some (r, outs)) : outs.length = os.length := by
  unfold callM at h
  by_cases hl : os.length = io.length
  · rw [if_pos hl] at h
    cases q : m (inE io os ++ List.replicate n none) with
    | none => rw [q] at h; cases h
    | some p =>
      obtain ⟨fl, s⟩ := p
      rw [q] at h
      cases fl with
      | nx =>
        simp only at h
        cases q2 : outsM io os 0 s with
        | none => simp only [q2] at h; cases h
        | some l =>
          simp only [q2] at h
          have e := Option.some.inj h
          injection e with e1 e2
          subst e2
          exact outsM_len q2
      | bk => cases h
      | ct => cases h
      | rt o =>
        simp only at h
        cases q2 : outsM io os 0 s with
        | none => simp only [q2] at h; cases h
        | some l =>
          simp only [q2] at h
          have e := Option.some.inj h
          injection e with e1 e2
          subst e2
          exact outsM_len q2
  · rw [if_neg hl] at h; cases h
theorem wl_len {X : Cx} : ∀ {es : List Expr} {σ : L2.St} {H : Hp} {Q : List V → Hp → Prop}, WL X es σ H Q → WL X es σ H fun vs H' => vs.length = es.length ∧ Q vs H'
  | [], σ, H, Q, w => ⟨rfl, w⟩
  | e :: es, σ, H, Q, w => WE.mono w fun v H' w' => by
    have z := wl_len w'
    exact wl_mono z fun vs H'' ⟨l, q⟩ => ⟨by simp [l], q⟩
where wl_mono {X : Cx} : ∀ {es : List Expr} {σ : L2.St} {H : Hp} {Q Q' : List V → Hp → Prop}, WL X es σ H Q → (∀ vs H', Q vs H' → Q' vs H') → WL X es σ H Q'
  | [], σ, H, Q, Q', w, k => k [] H w
  | e :: es, σ, H, Q, Q', w, k => WE.mono w fun v H' w' => wl_mono w' fun vs H'' q => k (v :: vs) H'' q
section
variable {Γ : Gm} {e : Expr} {es : List Expr} {p pos : Pos} {x : Str} {ms : List (M Ar)} {k np : Nat} {fa : Addr} {fd : FuncData} {ps : List Str} {f : List O → Option (O × List O)}
theorem sd_call (F : FnD Γ.cfg k x fa fd ps np f) (hb : Binds Γ.cfg.K fd ps []) (hn : NoStars (e :: es)) (ha : Sars Γ (e :: es) ms) (hl : (e :: es).length = np := by rfl) (hk : k ≤ Γ.n := by exact Nat.le_of_ble_eq_true rfl) (hg : Γ.glo x = true := by kernel_rfl) (hdb : (x == ("__debug__" : Str)) = false := by kernel_rfl) :
    Sd Γ (.Call (.Name x p) (e :: es) [] pos) (mCall f ms) := ⟨fun X ok env o env' hm σ H T hr Q q => by
  obtain ⟨ars, s1, os, s2, o', outs, s3, h1, h2, h3, h4, e1⟩ := mCall_some hm
  injection e1 with e1 e2
  subst e1 e2
  refine ⟨_, peG_call ok.at_ F.ok (ok.room.mono hk) (ok.glo hg) F.at_ F.kp hb hdb (pa_of hn) (ns_head hn _) (backTo_plain (ns_tail hn)), ?_⟩
  have w := ha.run X ok env ars s1 h1 σ H T hr (fun vs H' => RS Γ.cfg.K H' s1 σ ((List.zipWith Ar.its ars vs).flatten ++ T) ∧ ars.length = vs.length ∧ (∀ p ∈ ars.zip vs, p.1.at σ p.2)) fun vs H' r l a => ⟨r, l, a⟩
  refine wl_len.wl_mono (wl_len w) fun vs H' ⟨hv, r, l, a⟩ => ?_
  rw [List.append_nil]
  have hos : os.length = vs.length := (take_rs h2 l a r).1
  exact call_read (cfg := Γ.cfg) h2 h3 h4 l a r (hv.trans hl) (F.len _ _ _ h3 (hos.trans (hv.trans hl))) q⟩
theorem pk_of {X : Cx} : ∀ {kws : List Keyword}, PK X kws (fun σ H Q => WL X (kws.map (·.value)) σ H Q)
  | [] => pk_nil
  | ⟨a, e, p⟩ :: kws => pk_cons (pe_best X e) pk_of
theorem vals_perm {π : List Nat} {vs zs : List V} {us ws : List Value} (h : Vals vs us) (h' : Vals zs ws) : Vals (permL π (vs ++ zs)) (permL π (us ++ ws)) := by
  have h2 := h.append h'
  induction π with
  | nil => exact .nil
  | cons i π ih =>
    unfold permL
    rw [List.filterMap_cons, List.filterMap_cons]
    cases q : (vs ++ zs)[i]? with
    | none => rw [h2.none_of q]; exact ih
    | some v =>
      obtain ⟨u, g1, g2⟩ := h2.get q
      rw [g1]
      exact .cons g2 ih
/-- how a call with keywords binds -/
theorem kbn_of {K : PySem.W.Frag} {n : Nat} {ks : List Str} {π : List Nat} (h : ∀ (s : Shared) (us ws : List Value), us.length = n → ws.length = ks.length → BindsTo s fd ⟨us, ks.zip ws⟩ (ps.zip (permL π (us ++ ws)))) :
    KBn K fd ps n ks (fun us ws => permL π (us ++ ws)) (fun vs zs => permL π (vs ++ zs)) := ⟨fun s us ws _ l1 l2 => h s us ws l1 l2, fun r1 r2 => vals_perm r1 r2⟩
end
end BM
set_option Elab.async false
set_option linter.all false
set_option maxRecDepth 100000
set_option maxHeartbeats 4000000
namespace BM
open PySem PySem.Spec PyProof.Rows L2
variable [Tb]
def mApp (i : Nat) (me : M O) : M O := fun s => match s[i]? with
  | some (some (.lst _)) => (match me s with
    | some (y, s') => (match s'[i]? with
      | some (some (.lst os)) => if os.length < sizeLine then some (.d .non, s'.set i (some (.lst (os ++ [y])))) else none
      | _ => none)
    | none => none)
  | _ => none
def mPopAt (i : Nat) (me : M O) : M O := fun s => match s[i]? with
  | some (some (.lst _)) => (match me s with
    | some (.d (.int k), s') => (match s'[i]? with
      | some (some (.lst os)) => (match ixN os.length k with
        | some j => (match os[j]? with
          | some y => some (y, s'.set i (some (.lst (os.eraseIdx j))))
          | none => none)
        | none => none)
      | _ => none)
    | _ => none)
  | _ => none
def isInt : D → Bool
  | .int _ => true
  | _ => false
section
variable {K : PySem.W.Frag} {H : Hp} {L : List It}
theorem reps_split : ∀ {os : List O} {vs : List V} {j : Nat} {c : O}, os.length = vs.length → os[j]? = some c → ∃ v1, vs[j]? = some v1 ∧ (reps os vs).Perm (.rep c v1 :: reps (os.eraseIdx j) (vs.eraseIdx j)) ∧ ∀ c' : O, (reps (os.set j c') vs).Perm (.rep c' v1 :: reps (os.eraseIdx j) (vs.eraseIdx j))
  | o :: os, v :: vs, 0, c, _, h => by
    have e : o = c := Option.some.inj h
    subst e
    exact ⟨v, rfl, .refl _, fun c' => .refl _⟩
  | o :: os, v :: vs, j + 1, c, hl, h => by
    obtain ⟨v1, h1, h2, h3⟩ := reps_split (os := os) (vs := vs) (j := j) (c := c) (by simpa using hl) (by simpa using h)
    exact ⟨v1, by simpa using h1, (h2.cons _).trans (.swap _ _ _), fun c' => ((h3 c').cons _).trans (.swap _ _ _)⟩
  | [], _, _, _, _, h => by simp at h
  | _ :: _, [], _, _, hl, _ => by cases hl
theorem ixN_bounds {n : Nat} {k : Int} {j : Nat} (h : ixN n k = some j) : -(n : Int) ≤ k ∧ k < n := (ixN_seq h).2.2
theorem atI_of {xs : List V} {n : Nat} {k : Int} {j : Nat} {v : V} (hn : xs.length = n) (h : ixN n k = some j) (e : xs[j]? = some v) : atI xs k = some v := by
  unfold atI
  rw [hn, h]; exact e
end
section
variable {Γ : Gm} {e : Expr} {p pos apos p1 p2 : Pos} {x : Str} {i : Nat}
theorem ty_list {K : PySem.W.Frag} {H : Hp} {a : Addr} {xs : List V} (h : H a = some (.lst xs)) : tyV K "list" (.ref a) H := .inl ⟨rfl, xs, .inl (.inl h)⟩
theorem slot_lst {K : PySem.W.Frag} {H : Hp} {env : Env} {σ : L2.St} {T : List It} {os : List O} (r : RS K H env σ T) (h : env[i]? = some (some (.lst os))) : ∃ a vs, σ[i]? = some (some (.ref a)) ∧ H a = some (.lst vs) ∧ os.length = vs.length := by
  obtain ⟨v, h1, L, hE, hS⟩ := r.take h
  obtain ⟨a, vs, e1, hl, h2⟩ := St.open_lst hS
  subst e1
  exact ⟨a, vs, h1, h2.raw_at, hl⟩
theorem sd_app {me : M O} (i : Nat) (he : Sd Γ e me) (hns : ∀ env : PySem.Env, starEach [e] env = (false, eval e env) :: starEach [] env := by intro _; rfl) (hN : Γ.N[i]? = some x := by rfl) (hv : Γ.vis x = true := by kernel_rfl)
    (hbase : ∀ env : PySem.Env, attributeBase (.Name x p) "append" env (eval (.Name x p) env) = eval (.Name x p) env := by intro _; rfl)
    (hfew : ∀ env : PySem.Env, ((backTo pos (starEach [e] env)).all (fun x => !x.1) && (backToKw pos (keywordEach [] env)).all (fun x => x.1.isSome) && decide ([e].length + ([] : List Keyword).length + (if ([] : List Keyword).isEmpty then 0 else 1) < 30)) = true := by intro _; rfl)
    (hline : (apos.endLine == pos.line) = true := by rfl)
    (hd : (x == ("__debug__" : Str)) = false := by kernel_rfl) (hcd : (x == ("__classdict__" : Str)) = false := by kernel_rfl) : Sd Γ (.Call (.Attribute (.Name x p) "append" apos) [e] [] pos) (mApp i me) := ⟨fun X ok env o env' hm σ H T hr Q q => by
  unfold mApp at hm
  split at hm
  · rename_i os0 q0
    split at hm
    · rename_i y s' q1
      split at hm
      · rename_i os q2
        by_cases hl : os.length < sizeLine
        · rw [if_pos hl] at hm
          have e1 := Option.some.inj hm
          injection e1 with e1 e2
          subst e1 e2
          have hn : NoStars [e] := ns_cons ns_nil hns
          refine ⟨_, pe_bm (T := "list") PySem.F.plainAttrs_list PySem.F.slot_list_append PySem.F.type_list_append (mt_append (X := X)) (pe_var (i := i) (by rw [ok.hN]; exact hN) (ok.vis hv) hd hcd) (pa_of hn) (hbase X.env) (hfew X.env) hline (hns X.env) (backTo_plain ns_nil), ?_⟩
          obtain ⟨a, vs, h1, h2, h3⟩ := slot_lst hr q0
          refine ⟨.ref a, h1, ty_list h2, ?_⟩
          refine he.run X ok env y s' q1 σ H T hr _ fun w H1 r1 => ?_
          obtain ⟨v', g1, g2⟩ := r1.take q2
          rw [h1] at g1
          have e := Option.some.inj (Option.some.inj g1)
          subst e
          obtain ⟨acc, f1, f2, f3⟩ := append_rs (g2.perm (.swap _ _ _))
          refine ⟨a, acc, w, rfl, rfl, f1, by rw [f2]; exact hl, q .non _ ?_⟩
          have f4 := f3.putSame h1
          rw [List.set_set] at f4
          exact f4.lift fun L h => h.flat rfl
        · rw [if_neg hl] at hm; cases hm
      · cases hm
    · cases hm
  · cases hm⟩
theorem pop_rs {K : PySem.W.Frag} {H : Hp} {env : Env} {σ : L2.St} {T : List It} {os : List O} {Dl : Addr} {j : Nat} {y : O} (hj : os[j]? = some y) (h : RS K H env σ (.rep (.lst os) (.ref Dl) :: T)) :
    ∃ acc w, H Dl = some (.lst acc) ∧ acc.length = os.length ∧ acc[j]? = some w ∧ RS K (upd H Dl (.lst (acc.eraseIdx j))) env σ (.rep y w :: .rep (.lst (os.eraseIdx j)) (.ref Dl) :: T) := by
  obtain ⟨L, hE, hS⟩ := h
  obtain ⟨a, vs, e1, hl, h2⟩ := St.open_lst (L := T ++ L) hS
  cases e1
  obtain ⟨w, g1, g2, g3⟩ := reps_split hl hj
  refine ⟨vs, w, h2.raw_at, hl.symm, g1, L, hE, ?_⟩
  have h3 := h2.write (u' := .lst (vs.eraseIdx j))
  have h4 : St K (upd H Dl (.lst (vs.eraseIdx j))) (.raw Dl (.lst (vs.eraseIdx j)) :: (reps (os.eraseIdx j) (vs.eraseIdx j) ++ (.rep y w :: (T ++ L)))) := by
    refine h3.perm (.cons _ ?_)
    exact (g2.append_right _).trans List.perm_middle.symm
  have hlj : j < os.length := (List.getElem?_eq_some_iff.mp hj).1
  have h5 := St.close_lst (by
    rw [List.length_eraseIdx, List.length_eraseIdx, hl]) h4
  exact h5.perm (.swap _ _ _)
theorem last_erase {α : Type} (l : List α) : l.eraseIdx (l.length - 1) = l.dropLast := by
  exact PyProof.Rows.Copied.eraseIdx_last l
theorem getLast_get {α : Type} {l : List α} {y : α} (h : l.getLast? = some y) : l[l.length - 1]? = some y := by
  rw [List.getLast?_eq_getElem?] at h; exact h
theorem sd_popAt {me : M O} (i : Nat) (he : Sd Γ e me) (hns : ∀ env : PySem.Env, starEach [e] env = (false, eval e env) :: starEach [] env := by intro _; rfl) (hN : Γ.N[i]? = some x := by rfl) (hv : Γ.vis x = true := by kernel_rfl)
    (hbase : ∀ env : PySem.Env, attributeBase (.Name x p) "pop" env (eval (.Name x p) env) = eval (.Name x p) env := by intro _; rfl)
    (hfew : ∀ env : PySem.Env, ((backTo pos (starEach [e] env)).all (fun x => !x.1) && (backToKw pos (keywordEach [] env)).all (fun x => x.1.isSome) && decide ([e].length + ([] : List Keyword).length + (if ([] : List Keyword).isEmpty then 0 else 1) < 30)) = true := by intro _; rfl)
    (hline : (apos.endLine == pos.line) = true := by rfl)
    (hd : (x == ("__debug__" : Str)) = false := by kernel_rfl) (hcd : (x == ("__classdict__" : Str)) = false := by kernel_rfl) : Sd Γ (.Call (.Attribute (.Name x p) "pop" apos) [e] [] pos) (mPopAt i me) := ⟨fun X ok env o env' hm σ H T hr Q q => by
  unfold mPopAt at hm
  split at hm
  · rename_i os0 q0
    split at hm
    · rename_i k s' q1
      split at hm
      · rename_i os q2
        split at hm
        · rename_i j q3
          split at hm
          · rename_i y q4
            have e1 := Option.some.inj hm
            injection e1 with e1 e2
            subst e1 e2
            have hn : NoStars [e] := ns_cons ns_nil hns
            refine (?_ : WE X _ σ H Q)
            have key : PE X (.Call (.Attribute (.Name x p) "pop" apos) [e] [] pos) (tBM X.K "list" rPopAt (tVar i) (fun σ H Q => WL X [e] σ H Q)) := pe_bm (T := "list") PySem.F.plainAttrs_list PySem.F.slot_list_pop PySem.F.type_list_pop (mt_popAt (X := X)) (pe_var (i := i) (by rw [ok.hN]; exact hN) (ok.vis hv) hd hcd) (pa_of hn) (hbase X.env) (hfew X.env) hline (hns X.env) (backTo_plain ns_nil)
            -- the list's length is below the line: known to the state
            refine ⟨fun σ1 H1 R => tBM X.K "list" (fun x vs H Q => (∀ (a : Addr) (xs : List V), x = .ref a → H a = some (.lst xs) → xs.length ≤ sizeLine) → rPopAt x vs H Q) (tVar i) (fun σ H Q => WL X [e] σ H Q) σ1 H1 R, ?_, ?_⟩
            · refine pe_bm (T := "list") PySem.F.plainAttrs_list PySem.F.slot_list_pop PySem.F.type_list_pop (r := fun x vs H Q => (∀ (a : Addr) (xs : List V), x = .ref a → H a = some (.lst xs) → xs.length ≤ sizeLine) → rPopAt x vs H Q) ?_ (pe_var (i := i) (by rw [ok.hN]; exact hN) (ok.vis hv) hd hcd) (pa_of hn) (hbase X.env) (hfew X.env) hline (hns X.env) (backTo_plain ns_nil)
              intro pins s σ H x vs v us Q I rx rv h
              exact mt_popAt pins s σ H x vs v us Q I rx rv (h fun a xs e h => (I.lstM h).1)
            · obtain ⟨a, vs, h1, h2, h3⟩ := slot_lst hr q0
              refine ⟨.ref a, h1, ty_list h2, ?_⟩
              refine he.run X ok env _ s' q1 σ H T hr _ fun w H1 r1 => ?_
              have ew : w = .int k := by
                obtain ⟨L, _, hS⟩ := r1
                exact hS.intv
              subst ew
              intro hsz
              obtain ⟨v', g1, g2⟩ := r1.drop.take q2
              rw [h1] at g1
              have e := Option.some.inj (Option.some.inj g1)
              subst e
              obtain ⟨acc, w, f1, f2, f3, f4⟩ := pop_rs q4 g2
              have hz := hsz a acc rfl f1
              have hl := line63
              obtain ⟨b1, b2⟩ := ixN_bounds q3
              refine ⟨a, acc, k, j, w, rfl, rfl, f1, by omega, by omega, ?_, f3, q w _ ?_⟩
              · rw [f2]; exact (ixN_seq q3).1
              · have f5 := (f4.perm (.swap _ _ _)).putSame h1
                rw [List.set_set] at f5
                exact f5
          · cases hm
        · cases hm
      · cases hm
    · cases hm
  · cases hm⟩
end
end BM
set_option Elab.async false
set_option linter.all false
set_option maxRecDepth 100000
set_option maxHeartbeats 4000000
namespace BM
open PySem PySem.Spec PyProof.Rows L2
variable [Tb]
section
variable {Γ : Gm} {e b : Expr} {p p1 pos : Pos} {x : Str} {i : Nat}
theorem reps_set {o : O} {v : V} : ∀ {os : List O} {vs : List V} {j : Nat}, os.length = vs.length → j < os.length → ∃ T, (reps (os.set j o) (vs.set j v)).Perm (.rep o v :: T) ∧ T.Sublist (reps os vs)
  | a :: os, u :: vs, 0, _, _ => ⟨reps os vs, .refl _, .cons _ (.refl _)⟩
  | a :: os, u :: vs, j + 1, hl, hj => by
    obtain ⟨T, h1, h2⟩ := reps_set (o := o) (v := v) (os := os) (vs := vs) (j := j) (by simpa using hl) (by simpa using hj)
    refine ⟨.rep a u :: T, (h1.cons _).trans (.swap _ _ _), .cons₂ _ h2⟩
  | [], _, _, _, h => absurd h (Nat.not_lt_zero _)
  | _ :: _, [], _, hl, _ => by cases hl
end
mutual
def D.py : D → Option PyData
  | .non => some .none
  | .bl b => some (.bool b)
  | .int i => some (.int i)
  | .str x => some (.str x)
  | .tup l => match D.pys l with
    | some r => some (.tuple r)
    | none => none
  | .lst l => match D.pys l with
    | some r => some (.list r)
    | none => none
  | _ => none
def D.pys : List D → Option (List PyData)
  | [] => some []
  | d :: r => match D.py d, D.pys r with
    | some a, some b => some (a :: b)
    | _, _ => none
end
section
variable {K : PySem.W.Frag} {H : Hp}
mutual
theorem rep_dp : ∀ {d : D} {v : V} {p : PyData}, Rep K H d v → D.py d = some p → Dp K H v p
  | .non, v, p, r, h => by
    rw [D.py] at h; cases h; rw [Rep] at r; subst r; exact .non
  | .bl b, v, p, r, h => by
    rw [D.py] at h; cases h; rw [Rep] at r; subst r; exact .bl b
  | .int b, v, p, r, h => by
    rw [D.py] at h; cases h; rw [Rep] at r; subst r; exact .int b
  | .str b, v, p, r, h => by
    rw [D.py] at h; cases h; rw [Rep] at r; subst r; exact .str b
  | .tup l, v, p, r, h => by
    rw [D.py] at h
    cases q : D.pys l with
    | none => rw [q] at h; cases h
    | some m =>
      rw [q] at h; cases h
      rw [Rep] at r
      obtain ⟨a, vs, e, h1, h2⟩ := r
      subst e
      exact .tup h1 (reps_dp h2 q)
  | .lst l, v, p, r, h => by
    rw [D.py] at h
    cases q : D.pys l with
    | none => rw [q] at h; cases h
    | some m =>
      rw [q] at h; cases h
      rw [Rep] at r
      obtain ⟨a, vs, e, h1, h2⟩ := r
      subst e
      exact .lst h1 (reps_dp h2 q)
  | .dct l, v, p, r, h => by simp [D.py] at h
  | .obj _ _ l, v, p, r, h => by simp [D.py] at h
theorem reps_dp : ∀ {ds : List D} {vs : List V} {ps : List PyData}, Reps K H ds vs → D.pys ds = some ps → DpAll K H vs ps
  | [], vs, ps, r, h => by
    rw [D.pys] at h; cases h; rw [Reps] at r; subst r; exact .nil
  | d :: ds, vs, ps, r, h => by
    rw [D.pys] at h
    cases q1 : D.py d with
    | none => rw [q1] at h; cases h
    | some a =>
      cases q2 : D.pys ds with
      | none => rw [q1, q2] at h; cases h
      | some b =>
        rw [q1, q2] at h
        cases h
        rw [Reps] at r
        obtain ⟨v, r', e, h1, h2⟩ := r
        subst e
        exact .cons (rep_dp h1 q1) (reps_dp h2 q2)
end
end
theorem pys_ints : ∀ {ds : List D}, ds.all isInt = true → ∃ ps, D.pys ds = some ps ∧ ps.length = ds.length ∧ PyData.canLayAll0 ps = true ∧ PyData.depthAll ps = 0
  | [], _ => ⟨[], by rw [D.pys], rfl, rfl, rfl⟩
  | d :: ds, h => by
    have h' : isInt d = true ∧ ds.all isInt = true := by simpa using h
    obtain ⟨ps, h1, h2, h3, h4⟩ := pys_ints h'.2
    cases d with
    | int i =>
      refine ⟨.int i :: ps, by rw [D.pys, h1, D.py], by simp [h2], ?_, ?_⟩
      · rw [PyData.canLayAll0, h3]; rfl
      · rw [PyData.depthAll, h4]; rfl
    | non => cases h'.1
    | bl _ => cases h'.1
    | str _ => cases h'.1
    | tup _ => cases h'.1
    | lst _ => cases h'.1
    | dct _ => cases h'.1
    | obj _ _ _ => cases h'.1
def msetB (i : Nat) (own : Bool) (o : O) : M Unit := mset i (if own = true then o else .d o.toD)
def sPar (i : Nat) (bi : Bool) (j : Nat) (bj : Bool) (ma mb : M O) : M Fl := fun s => match mArgs [ma, mb] s with
  | some ([x, y], s1) => (mbind (msetB i bi x) fun _ => mbind (msetB j bj y) fun _ => mpure .nx) s1
  | _ => none
def sPar3 (i : Nat) (bi : Bool) (j : Nat) (bj : Bool) (l : Nat) (bl : Bool) (ma mb mc : M O) : M Fl := fun s => match mArgs [ma, mb, mc] s with
  | some ([x, y, z], s1) => (mbind (msetB i bi x) fun _ => mbind (msetB j bj y) fun _ => mbind (msetB l bl z) fun _ => mpure .nx) s1
  | _ => none
section
variable {Γ : Gm} {a b c : Expr} {px py pz pt pt2 pos : Pos} {x y z : Str} {kt k2}
theorem msetB_rs {K : PySem.W.Frag} {H : Hp} {env env' : Env} {σ : L2.St} {T : List It} {i : Nat} {own : Bool} {o : O} {v : V} (h : msetB i own o env = some ((), env')) (r : RS K H env σ (.rep o v :: T)) : RS K H env' (σ.set i (some v)) T := by
  obtain ⟨g1, g2⟩ := mset_some h
  have g2 : env' = env.set i (some (if own = true then o else .d o.toD)) := g2
  subst g2
  cases own with
  | true => exact r.put g1
  | false => exact r.freeze.put g1
theorem kp_set {A : List Nat} {σ σ' : L2.St} {i : Nat} {v : Option V} (k : Kp A σ σ') (h : i ∈ A) : Kp A σ (σ'.set i v) := ⟨by rw [List.length_set]; exact k.1, fun j hj => by
  rw [List.getElem?_set_ne (fun e => hj (by rw [← e]; exact h))]
  exact k.2 j hj⟩
theorem ss_par {ma mb : M O} (i : Nat) (bi : Bool) (j : Nat) (bj : Bool) (hn : NoStars [a, b]) (h : Sar Γ [a, b] (mArgs [ma, mb])) (hi : Γ.N[i]? = some x := by rfl) (hj : Γ.N[j]? = some y := by rfl) (hij : i ≠ j := by decide)
    (hx : Γ.sc.lookup x = some .local := by kernel_rfl) (hy : Γ.sc.lookup y = some .local := by kernel_rfl) (nd : Γ.N.Nodup := by assumption)
    (hw : ∀ env : PySem.Env, env.scope.names = Γ.sc → env.scope.kind = .function → swappedStores [.Tuple [.Name x px, .Name y py] kt pt] (.Tuple [a, b] k2 pt2) env = pure (some [x, y]) := by rintro ⟨⟨_, _, _, _, _⟩, _, _, _, _, _, _, _, _⟩ rfl rfl; rfl)
    (hs : ∀ env : PySem.Env, swapsWithSole [.Tuple [.Name x px, .Name y py] kt pt] (.Tuple [a, b] k2 pt2) pos.line env = pure false := by intro _; rfl) :
    Ss Γ (.Assign [.Tuple [.Name x px, .Name y py] kt pt] (.Tuple [a, b] k2 pt2) pos) (sPar i bi j bj ma mb) [i, j] := ⟨fun X ok env fl env' hm σ H T hr D q => by
  unfold sPar at hm
  split at hm
  · rename_i o1 o2 s1 h1
    obtain ⟨_, s2, h2, h3⟩ := mbind_some hm
    obtain ⟨_, s3, h4, h5⟩ := mbind_some h3
    have e1 := Option.some.inj (show some (Fl.nx, s3) = some (fl, env') from h5)
    injection e1 with e1 e2
    subst e1 e2
    refine ⟨_, ps_par ok.calm (by rw [ok.hN]; exact nd) (by rw [ok.hN]; exact hi) (by rw [ok.hN]; exact hj) hij (by rw [ok.hsc]; exact hx) (by rw [ok.hsc]; exact hy) (pa_of hn) (hw X.env ok.hsc ok.hkd) (hs X.env), ?_⟩
    refine h.run X ok env _ s1 h1 σ H T hr (fun vs H1 => ∃ v w, vs = [v, w] ∧ D.nx ((σ.set i (some v)).set j (some w)) H1) fun vs H1 hl r => ?_
    match vs, hl with
    | [v, w], _ =>
      refine ⟨v, w, rfl, q _ H1 ?_ (kp_set (kp_set (Kp.refl _ _) (by simp)) (by simp))⟩
      exact msetB_rs h4 (msetB_rs h2 r)
  · cases hm⟩
end
end BM
set_option Elab.async false
set_option linter.all false
set_option maxRecDepth 100000
set_option maxHeartbeats 4000000
namespace BM
open PySem PySem.Spec PyProof.Rows L2
end BM
set_option Elab.async false
set_option linter.all false
set_option maxRecDepth 100000
set_option maxHeartbeats 4000000
namespace BM
open PySem PySem.Spec PyProof.Rows L2
variable [Tb]
def gTpL (gs : List (D → M Unit)) : D → M Unit
  | .lst ds => gTs gs ds
  | _ => mfail
section
variable {Γ : Gm} {e : Expr} {p pos : Pos} {x : Str}
theorem sg_tpL {ts : List Expr} {k : Nat} {gs : List (D → M Unit)} {A : List Nat} {n : Nat} (h : Sgs Γ ts gs A) (hl : gs.length = n := by rfl) (hn : ∀ env : PySem.Env, (assignEach ts env).length = n := by intro _; rfl)
    (hst : ∀ env : PySem.Env, (assignEach ts env).findIdx? (·.1) = none := by intro _; rfl) : Sg Γ (.Tuple ts k pos) (gTpL gs) A := ⟨fun X ok env d env' hm σ H T v hr Q q => by
  cases d with
  | lst ds =>
    have hlen : ds.length = gs.length := by
      have key : ∀ (gs : List (D → M Unit)) (ds : List D) (env : Env) (r : Unit × Env), gTs gs ds env = some r → ds.length = gs.length := by
        intro gs
        induction gs with
        | nil =>
          intro ds env r h
          cases ds with
          | nil => rfl
          | cons => cases h
        | cons g gs ih =>
          intro ds env r h
          cases ds with
          | nil => cases h
          | cons d ds =>
            obtain ⟨_, s1, _, h2⟩ := mbind_some (show mbind (g d) (fun _ => gTs gs ds) env = _ from h)
            rw [List.length_cons, List.length_cons, ih ds s1 r h2]
      exact key gs ds env _ hm
    obtain ⟨L, hE, hS⟩ := hr
    obtain ⟨a, vs, e1, h1, h2, h3⟩ := hS.read_lst
    refine ⟨gUnl X.K n (WGs X ts), pg_unl ok.calm (pgs_best X ts) (hn X.env) (hst X.env), a, vs, e1, by rw [ok.hK]; exact h1, by rw [← h2, hlen, hl], ?_⟩
    refine h.run X ok env ds env' hm σ H T vs h2 ⟨L, hE, ?_⟩ Q q
    rw [List.append_assoc]
    exact h3.sub (List.Sublist.append_left (List.sublist_cons_self _ _) _)
  | _ => cases hm⟩
end
end BM
set_option Elab.async false
set_option linter.all false
set_option maxRecDepth 100000
set_option maxHeartbeats 4000000
namespace BM
open PySem PySem.Spec PyProof.Rows L2
variable [Tb]
def w1 (f : D → Option O) : List D → Option O
  | [a] => f a
  | _ => none
def w2 (f : D → D → Option O) : List D → Option O
  | [a, b] => f a b
  | _ => none
def w1b (f : D → Option Bool) : List D → Option Bool
  | [a] => f a
  | _ => none
def w2b (f : D → D → Option Bool) : List D → Option Bool
  | [a, b] => f a b
  | _ => none
def fAdd : D → D → Option O
  | .int i, .int j => some (.d (.int (i + j)))
  | .str a, .str b => if a.length + b.length ≤ sizeLine then some (.d (.str (a ++ b))) else none
  | .lst a, .lst b => if a.length + b.length ≤ sizeLine then some (.lst (leaf (a ++ b))) else none
  | .tup a, .tup b => if a.length + b.length ≤ sizeLine then some (.d (.tup (a ++ b))) else none
  | _, _ => none
def fSub : D → D → Option O
  | .int i, .int j => some (.d (.int (i - j)))
  | _, _ => none
def sm64 (i : Int) : Bool := decide (-(2 ^ 64) < i) && decide (i < 2 ^ 64)
def fMul : D → D → Option O
  | .int i, .int j => if (sm64 i || sm64 j) = true then some (.d (.int (i * j))) else none
  | .lst a, .int k => if -(2 ^ 63) ≤ k ∧ k < 2 ^ 63 ∧ a.length * k.toNat ≤ sizeLine then some (.lst (leaf (List.replicate k.toNat a).flatten)) else none
  | .tup a, .int k => if a ≠ [] ∧ 2 ≤ k ∧ k ≤ 1000 ∧ a.length ≤ 1000 then some (.d (.tup (List.replicate k.toNat a).flatten)) else none
  | _, _ => none
def fMod : D → D → Option O
  | .int i, .int j => if 0 < j then some (.d (.int (i % j))) else none
  | _, _ => none
def fDiv : D → D → Option O
  | .int i, .int j => if 0 < j ∧ j < 1073741824 then some (.d (.int (i / j))) else none
  | _, _ => none
def fPow : D → D → Option O
  | .int i, .int j => if 0 ≤ j ∧ j ≤ 1000000 ∧ i.natAbs < 2 ^ 64 then some (.d (.int (i ^ j.toNat))) else none
  | _, _ => none
def fNeg : D → Option O
  | .int i => some (.d (.int (-i)))
  | _ => none
def fLt : D → D → Option Bool
  | .int i, .int j => some (decide (i < j))
  | .str a, .str b => some (decide (a.cps.toList < b.cps.toList))
  | _, _ => none
def fLe : D → D → Option Bool
  | .int i, .int j => some (decide (i ≤ j))
  | .str a, .str b => some (!decide (b.cps.toList < a.cps.toList))
  | _, _ => none
def fGt : D → D → Option Bool
  | .int i, .int j => some (decide (j < i))
  | .str a, .str b => some (decide (b.cps.toList < a.cps.toList))
  | _, _ => none
def fGe : D → D → Option Bool
  | .int i, .int j => some (decide (j ≤ i))
  | .str a, .str b => some (!decide (a.cps.toList < b.cps.toList))
  | _, _ => none
def fEqD (a b : D) : Option Bool := match a.py, b.py with
  | some p, some q => if (SeqAt.shaped p && SeqAt.shaped q) = true then some (PyData.eqv p q) else none
  | _, _ => none
def fEq : D → D → Option Bool
  | .str x, .str y => some (decide (x = y))
  | .tup a, b => fEqD (.tup a) b
  | .lst a, b => fEqD (.lst a) b
  | .int a, b => fEqD (.int a) b
  | .bl a, b => fEqD (.bl a) b
  | .non, b => fEqD .non b
  | .str x, b => fEqD (.str x) b
  | _, _ => none
def fNe (a b : D) : Option Bool := match fEq a b with
  | some k => some (!k)
  | none => none
def fIs : D → D → Option Bool
  | .non, .non => some true
  | .bl a, .bl b => some (decide (a = b))
  | .bl _, .non => some false
  | .int _, .non => some false
  | .str _, .non => some false
  | .tup _, .non => some false
  | .lst _, .non => some false
  | .dct _, .non => some false
  | .obj _ _ _, .non => some false
  | _, _ => none
def fIsN (a b : D) : Option Bool := match fIs a b with
  | some k => some (!k)
  | none => none
def fIn (a b : D) : Option Bool := match a, b with
  | .str x, .str y => some (!(Builtin.Str.occurrences y x 0 y.length 1).isEmpty)
  | a, .lst l => (match a.py, D.pys l with
    | some p, some q => if (SeqAt.shaped p && SeqAt.shaped (.list q)) = true then some (q.any fun z => PyData.eqv z p) else none
    | _, _ => none)
  | a, .tup l => (match a.py, D.pys l with
    | some p, some q => if (SeqAt.shaped p && SeqAt.shaped (.list q)) = true then some (q.any fun z => PyData.eqv z p) else none
    | _, _ => none)
  | _, _ => none
def fNotIn (a b : D) : Option Bool := match fIn a b with
  | some k => some (!k)
  | none => none
def fIx : D → D → Option O
  | .lst l, .int k => (match ixN l.length k with
    | some j => (match l[j]? with
      | some d => some (.d d)
      | none => none)
    | none => none)
  | .tup l, .int k => (match ixN l.length k with
    | some j => (match l[j]? with
      | some d => some (.d d)
      | none => none)
    | none => none)
  | .str x, .int k => if x.length ≤ sizeLine then (match ixN x.cps.toList.length k with
    | some j => (match x.cps.toList[j]? with
      | some c => some (.d (.str ⟨#[c]⟩))
      | none => none)
    | none => none) else none
  | _, _ => none
section
variable {Γ : Gm}
theorem okB_of {f : Value → Value → Sem Value} {g : D → D → Option O} (h : ∀ X, Γ.Ok X → ∀ H L x y d e o, St Γ.cfg.K H L → Look L d x → Look L e y → g d e = some o → ∀ Q : VK, (∀ v H', St Γ.cfg.K H' (.rep o v :: L) → Q v H') → WO X f x y H Q) : OkB Γ f (w2 g) :=
  fun X ok H L x y d e o hS lx ly hF Q q => h X ok H L x y d e o hS lx ly hF Q q
theorem okb_of {f : Value → Value → Sem Value} {g : D → D → Option Bool} (h : ∀ X, Γ.Ok X → ∀ H L x y d e k, St Γ.cfg.K H L → Look L d x → Look L e y → g d e = some k → ∀ Q : VK, Q (.bl k) H → WO X f x y H Q) : OkB Γ f (bO (w2b g)) :=
  fun X ok H L x y d e o hS lx ly hF Q q => by
    cases q1 : g d e with
    | none =>
      have hF' : (match g d e with | some b => some (O.d (.bl b)) | none => none) = some o := hF
      rw [q1] at hF'; cases hF'
    | some k =>
      have hF' : (match g d e with | some b => some (O.d (.bl b)) | none => none) = some o := hF
      rw [q1] at hF'
      have e1 := Option.some.inj hF'
      subst e1
      exact h X ok H L x y d e k hS lx ly q1 Q (q _ H (hS.flat rfl))
section
variable {X : Cx}
def rCatL (K : PySem.W.Frag) : R2 := fun x y H Q => ∃ l b xs zs, x = .ref l ∧ y = .ref b ∧ SqL K H l xs ∧ SqL K H b zs ∧ xs.length + zs.length ≤ sizeLine ∧ ∀ p, H p = none → Q (.ref p) (upd H p (.lst (xs ++ zs)))
theorem op_catL : OpR X (binaryOp .Add) (rCatL X.K) := by
  intro pins s σ H x y v u Q I rx ry h
  obtain ⟨l, b, xs, zs, rfl, rfl, hH, hB, hz, q⟩ := h
  cases rx
  cases ry
  obtain ⟨its, r, ⟨⟨cls, dd, data, sl⟩, n, ho, hc, _, hd⟩, hs⟩ := I.list hH
  obtain ⟨its2, r2, ⟨⟨cls2, dd2, data2, sl2⟩, n2, ho2, hc2, _, hd2⟩, hs2⟩ := I.list hB
  simp only at hc hd hc2 hd2
  subst hc hd hc2 hd2
  have hl := r.length
  have hl2 := r2.length
  refine concat_meets ⟨_, ho, rfl⟩ ⟨_, ho2, rfl⟩ noFill_list_add seq_list_add PySem.F.slot_list_add PySem.F.entry_list_add (PySem.F.args_list_add_2 _ _) (PyProof.Rows.list_addW l b its.toArray its2.toArray n n2 _ _ sl sl2 (by rw [List.size_toArray, List.size_toArray]; omega)) ⟨ho, ho2, ?_⟩
  have ea : its.toArray ++ its2.toArray = (its ++ its2).toArray := by simp
  rw [ea]
  exact ⟨.ref _, _, I.lnew (t' := s.toks) (r.append r2) (by rw [List.length_append]; omega), rfl, q _ I.fresh⟩
theorem int_rmul_listW (a : Int) (t : Tok) (l : Addr) (items : Array Value) (n : Nat) (dd : Option Addr) (sl : Array (Option Value)) :
    Meets (Builtin.«int.__rmul__» ⟨[.int a t, .ref l], []⟩) (fun _ R s => s.heap.get? l = some { cls := .type "list", dict := dd, data := .seq items n, slots := sl } ∧ R (.ok (.ret Value.notImplemented)) s) :=
  .of_wp fun prog w A R s h => by obtain ⟨hp, g, d, tk, os⟩ := s; obtain ⟨hl, h⟩ := h; wp_walk using wpAny_loadPart' hl; exact ⟨_, rfl, h⟩
theorem list_mulW (l : Addr) (items : Array Value) (n : Nat) (dd : Option Addr) (sl : Array (Option Value)) (x : Int) (u : Tok) (hc0 : ¬(!Builtin.List.listFitsIndex x) = true) (hc1 : ¬items.size * x.toNat > (2 ^ 63 - 1) / 8) (hc2 : ¬Builtin.List.listTooLong (items.size * x.toNat) = true) :
    Meets (Builtin.«list.__mul__» ⟨[.ref l, .int x u], []⟩) (fun _ R s => s.heap.get? l = some { cls := .type "list", dict := dd, data := .seq items n, slots := sl } ∧ R (.ok (.ret (Value.ref s.heap.objs.size))) { s with heap := s.heap.push { cls := Value.type "list", data := Data.seq (List.foldl (fun x1 x2 => x1 ++ x2) #[] (List.replicate (if items.isEmpty = true then 0 else x.toNat) items)) }, toks := s.toks }) :=
  .of_wp fun prog w A R s h => by
    obtain ⟨hp, g, d, tk, os⟩ := s; obtain ⟨hl, h⟩ := h
    have hsz := AutoListH.joined_fits hc2
    wp_walk using wpAny_loadPart' hl
    refine wpAny_ite_false (decide_eq_false (Nat.not_lt.mpr hsz)) ?_
    wp_walk using wpAny_loadPart' hl
    exact ⟨_, rfl, h⟩
def rRepL (K : PySem.W.Frag) : R2 := fun x y H Q => ∃ l k xs, x = .ref l ∧ y = .int k ∧ SqL K H l xs ∧ -(2 ^ 63) ≤ k ∧ k < 2 ^ 63 ∧ xs.length * k.toNat ≤ sizeLine ∧
  ∀ p, H p = none → Q (.ref p) (upd H p (.lst (List.replicate k.toNat xs).flatten))
theorem op_repL : OpR X (binaryOp .Mult) (rRepL X.K) := by
  intro pins s σ H x y v u Q I rx ry h
  obtain ⟨l, k, xs, rfl, rfl, hH, h1, h2, hz, q⟩ := h
  cases rx
  obtain ⟨t, rfl⟩ := ry
  obtain ⟨its, r, ⟨⟨cls, dd, data, sl⟩, n, ho, hc, _, hd⟩, hs⟩ := I.list hH
  simp only at hc hd
  subst hc hd
  have hl := r.length
  have hlen : its.toArray.size * k.toNat ≤ sizeLine := by rw [List.size_toArray, ← hl]; exact hz
  have hcap : ¬ its.toArray.size * k.toNat > (2 ^ 63 - 1) / 8 := by
    have : (sizeLine : Nat) ≤ (2 ^ 63 - 1) / 8 := by decide
    omega
  have hfit : ¬ (!Builtin.List.listFitsIndex k) = true := by
    rw [fitsIndex_both h1 h2]
    exact Bool.false_ne_true
  have hlong : ¬ Builtin.List.listTooLong (its.toArray.size * k.toNat) = true := by
    rw [notLongL hlen]
    exact Bool.false_ne_true
  have hnew : List.foldl (fun x1 x2 => x1 ++ x2) #[] (List.replicate (if its.toArray.isEmpty = true then 0 else k.toNat) its.toArray) = (List.replicate k.toNat its).flatten.toArray := by
    have f0 : ∀ m : Nat, List.foldl (fun x1 x2 => x1 ++ x2) #[] (List.replicate m its.toArray) = (List.replicate m its).flatten.toArray := fun m => by
      have := foldl_rep its m []
      rw [List.nil_append] at this
      exact this
    rw [f0]
    cases its with
    | nil => simp
    | cons a r' => rw [if_neg (by simp)]
  refine wpAny_binaryOp_repeat_ref (T := "list") (U := "int") (by decide) ⟨_, ho, rfl⟩ (fun s' => typeIs_int s' k t) noFill_list_mul F.fills_int_mul F.slot_int_rmul repeat_list F.slot_int_index.lookup
    (call_meets F.slot_int_rmul (typeIs_int s k t) F.entry_int_rmul (F.args_int_rmul_2 _ _) (int_rmul_listW k t l its.toArray n _ sl)
      ⟨ho, rfl, ⟨_, ho, rfl⟩, call_meets F.slot_list_mul ⟨_, ho, rfl⟩ F.entry_list_mul (F.args_list_mul_2 _ _) (list_mulW l its.toArray n _ sl k t hfit hcap hlong) ⟨ho, ?_⟩⟩)
  rw [hnew]
  exact ⟨.ref _, _, I.lnew (t' := s.toks) (r.rep k.toNat) (by rw [PyProof.Rows.lm_len_rep_flat, Nat.mul_comm]; exact hz), rfl, q _ I.fresh⟩
end
theorem reps_append {a b : List O} {c d : List V} (h : a.length = c.length) : reps (a ++ b) (c ++ d) = reps a c ++ reps b d := by
  induction a generalizing c with
  | nil =>
    cases c with
    | nil => rfl
    | cons => cases h
  | cons x a ih =>
    cases c with
    | nil => cases h
    | cons y c =>
      show It.rep x y :: reps (a ++ b) (c ++ d) = It.rep x y :: (reps a c ++ reps b d)
      rw [ih (by simpa using h)]
section
variable {K : PySem.W.Frag} {H : Hp} {L : List It}
/-- a new list of parts that are at hand -/
theorem St.newLst {ds : List D} {vs : List V} {p : Addr} (hl : ds.length = vs.length) (hp : H p = none) (h : St K H (reps (leaf ds) vs ++ L)) : St K (upd H p (.lst vs)) (.rep (.lst (leaf ds)) (.ref p) :: L) :=
  St.close_lst (by simpa using hl) (St.alloc hp h)
theorem St.newTup {ds : List D} {vs : List V} {p : Addr} (hl : ds.length = vs.length) (hp : H p = none) (h : St K H (reps (leaf ds) vs ++ L)) : St K (upd H p (.tup vs)) (.rep (.d (.tup ds)) (.ref p) :: L) :=
  St.close_tup hl (St.alloc hp h)
theorem Look.more {L' : List It} {d : D} {v : V} (k : Look L d v) : Look (L' ++ L) d v := k.wide fun _ h => List.mem_append_right _ h
theorem rep_lst {ds : List D} {vs : List V} (hl : ds.length = vs.length) : ∀ n, (List.replicate n ds).flatten.length = (List.replicate n vs).flatten.length := fun n => by
  rw [PyProof.Rows.lm_len_rep_flat, PyProof.Rows.lm_len_rep_flat, hl]
theorem Look.tupSt {b : List D} {v : V} (k : Look L (.tup b) v) (h : St K H L) : St K H (.rep (.d (.tup b)) v :: L) := by
  obtain ⟨o, hm, hf⟩ := k
  obtain ⟨r, p⟩ := mem_perm hm
  cases o with
  | d x =>
    have e := Option.some.inj (show some x = some (D.tup b) from hf)
    subst e
    exact (St.dup (h.perm p)).perm (.cons _ p.symm)
  | lst os =>
    have h' : (match O.leafs os with | some l => some (D.lst l) | none => none) = some (D.tup b) := hf
    cases q : O.leafs os with
    | none => rw [q] at h'; cases h'
    | some l => rw [q] at h'; cases h'
  | dct ks os =>
    have h' : (match O.leafs os with | some l => some (D.dct (ks.zip l)) | none => none) = some (D.tup b) := hf
    cases q : O.leafs os with
    | none => rw [q] at h'; cases h'
    | some l => rw [q] at h'; cases h'
  | obj C ns os =>
    have h' : (match O.leafs os with | some l => some (D.obj C ns l) | none => none) = some (D.tup b) := hf
    cases q : O.leafs os with
    | none => rw [q] at h'; cases h'
    | some l => rw [q] at h'; cases h'
/-- plain parts may be had as often as is wanted -/
theorem St.many : ∀ {R' R : List It}, (∀ x ∈ R', x ∈ R ∧ ∃ d v, x = .rep (.d d) v) → St K H (R ++ L) → St K H (R' ++ (R ++ L))
  | [], _, _, h => h
  | x :: R', R, hx, h => by
    have h1 := St.many (R' := R') (fun y hy => hx y (List.mem_cons_of_mem _ hy)) h
    obtain ⟨hm, d, v, e⟩ := hx x List.mem_cons_self
    subst e
    obtain ⟨r, p⟩ := mem_perm (show It.rep (.d d) v ∈ R' ++ (R ++ L) from List.mem_append_right _ (List.mem_append_left _ hm))
    exact (St.dup (h1.perm p)).perm (.cons _ p.symm)
theorem reps_leaf_mem : ∀ {ds : List D} {vs : List V} {x : It}, x ∈ reps (leaf ds) vs → ∃ d v, x = .rep (.d d) v
  | [], vs, x, h => by simp [reps] at h
  | d :: ds, [], x, h => by simp [reps] at h
  | d :: ds, v :: vs, x, h => by
    rcases List.mem_cons.mp (show x ∈ It.rep (.d d) v :: reps (leaf ds) vs from h) with e | h
    · exact ⟨d, v, e⟩
    · exact reps_leaf_mem h
theorem reps_times {ds : List D} {vs : List V} (hl : ds.length = vs.length) : ∀ n, reps (leaf (List.replicate n ds).flatten) (List.replicate n vs).flatten = (List.replicate n (reps (leaf ds) vs)).flatten
  | 0 => rfl
  | n + 1 => by
    rw [List.replicate_succ, List.flatten_cons, List.replicate_succ, List.flatten_cons, List.replicate_succ, List.flatten_cons, ← reps_times hl n]
    rw [show leaf (ds ++ (List.replicate n ds).flatten) = leaf ds ++ leaf (List.replicate n ds).flatten by simp [leaf]]
    exact reps_append (by simp [hl])
theorem St.times {ds : List D} {vs : List V} (hl : ds.length = vs.length) (h : St K H (reps (leaf ds) vs ++ L)) (n : Nat) : St K H (reps (leaf (List.replicate n ds).flatten) (List.replicate n vs).flatten ++ L) := by
  rw [reps_times hl]
  have h1 := h.many (R' := (List.replicate n (reps (leaf ds) vs)).flatten) fun x hx => by
    obtain ⟨l, hl, hx⟩ := List.mem_flatten.mp hx
    obtain ⟨_, e⟩ := List.mem_replicate.mp hl
    subst e
    exact ⟨hx, reps_leaf_mem hx⟩
  exact h1.sub (List.Sublist.append_left (List.sublist_append_right _ _) _)
end
theorem sm64_lt {i : Int} (h : sm64 i = true) : -(2 ^ 64) < i ∧ i < 2 ^ 64 := by
  unfold sm64 at h
  simpa using h
theorem ok_add : OkB Γ (binaryOp .Add) (w2 fAdd) := okB_of fun X ok H L x y d e o hS lx ly hF Q q => by
  unfold fAdd at hF
  split at hF
  · have e1 := Option.some.inj hF
    subst e1
    exact ⟨_, op_add, _, _, lx.int hS, ly.int hS, q _ H (hS.flat rfl)⟩
  · rename_i a b
    by_cases hz : a.length + b.length ≤ sizeLine
    · rw [if_pos hz] at hF
      have e1 := Option.some.inj hF
      subst e1
      exact ⟨_, op_add_str, _, _, lx.str hS, ly.str hS, hz, q _ H (hS.flat rfl)⟩
    · rw [if_neg hz] at hF; cases hF
  · rename_i a b
    by_cases hz : a.length + b.length ≤ sizeLine
    · rw [if_pos hz] at hF
      have e1 := Option.some.inj hF
      subst e1
      obtain ⟨p, vs, e1, h1, l1, s1⟩ := Look.lst hS lx
      obtain ⟨r, ws, e2, h2, l2, s2⟩ := Look.lst s1 ly.more
      subst e1 e2
      refine ⟨_, op_catL, p, r, vs, ws, rfl, rfl, by rw [ok.hK]; exact h1, by rw [ok.hK]; exact h2, by omega, fun z hz => q _ _ ?_⟩
      refine St.newLst (by simp [l1, l2]) hz ?_
      rw [show leaf (a ++ b) = leaf a ++ leaf b by simp [leaf], reps_append (by simp [l1])]
      refine s2.perm ?_
      rw [List.append_assoc, ← List.append_assoc]
      exact (List.perm_append_comm.append_right L).trans (.of_eq (by rw [List.append_assoc]))
    · rw [if_neg hz] at hF; cases hF
  · rename_i a b
    by_cases hz : a.length + b.length ≤ sizeLine
    · rw [if_pos hz] at hF
      have e1 := Option.some.inj hF
      subst e1
      obtain ⟨p, vs, e1, h1, l1, s1⟩ := Look.tup hS lx
      obtain ⟨r, ws, e2, h2, l2, s2⟩ := Look.tup s1 ly.more
      subst e1 e2
      refine ⟨_, op_catA, p, r, vs, ws, rfl, rfl, by rw [ok.hK]; exact h1, by rw [ok.hK]; exact h2, by omega, fun e => ?_, fun e1 e2 => ?_, fun _ _ z hz => q _ _ ?_⟩
      · subst e
        have e2 := List.eq_nil_of_length_eq_zero l1
        subst e2
        exact q _ H (ly.tupSt hS)
      · subst e2
        have e3 := List.eq_nil_of_length_eq_zero l2
        subst e3
        rw [List.append_nil] at q
        exact q _ H (lx.tupSt hS)
      refine St.newTup (by simp [l1, l2]) hz ?_
      rw [show leaf (a ++ b) = leaf a ++ leaf b by simp [leaf], reps_append (by simp [l1])]
      refine s2.perm ?_
      rw [List.append_assoc, ← List.append_assoc]
      exact (List.perm_append_comm.append_right L).trans (.of_eq (by rw [List.append_assoc]))
    · rw [if_neg hz] at hF; cases hF
  · cases hF
theorem ok_sub : OkB Γ (binaryOp .Sub) (w2 fSub) := okB_of fun X ok H L x y d e o hS lx ly hF Q q => by
  unfold fSub at hF
  split at hF
  · have e1 := Option.some.inj hF
    subst e1
    exact ⟨_, op_sub, _, _, lx.int hS, ly.int hS, q _ H (hS.flat rfl)⟩
  · cases hF
theorem ok_mul : OkB Γ (binaryOp .Mult) (w2 fMul) := okB_of fun X ok H L x y d e o hS lx ly hF Q q => by
  unfold fMul at hF
  split at hF
  · rename_i i j
    by_cases hz : (sm64 i || sm64 j) = true
    · rw [if_pos hz] at hF
      have e1 := Option.some.inj hF
      subst e1
      refine ⟨_, op_mul, _, _, lx.int hS, ly.int hS, ?_, q _ H (hS.flat rfl)⟩
      rcases Bool.or_eq_true_iff.mp hz with h | h
      · exact .inl (sm64_lt h)
      · exact .inr (sm64_lt h)
    · rw [if_neg hz] at hF; cases hF
  · rename_i a k
    by_cases hz : -(2 ^ 63) ≤ k ∧ k < 2 ^ 63 ∧ a.length * k.toNat ≤ sizeLine
    · rw [if_pos hz] at hF
      have e1 := Option.some.inj hF
      subst e1
      obtain ⟨p, vs, e1, h1, l1, s1⟩ := Look.lst hS lx
      subst e1
      refine ⟨_, op_repL, p, k, vs, rfl, ly.int hS, by rw [ok.hK]; exact h1, hz.1, hz.2.1, by rw [← l1]; exact hz.2.2, fun z hz => q _ _ ?_⟩
      exact St.newLst (rep_lst l1 _) hz (s1.times l1 _)
    · rw [if_neg hz] at hF; cases hF
  · rename_i a k
    by_cases hz : a ≠ [] ∧ 2 ≤ k ∧ k ≤ 1000 ∧ a.length ≤ 1000
    · rw [if_pos hz] at hF
      have e1 := Option.some.inj hF
      subst e1
      obtain ⟨p, vs, e1, h1, l1, s1⟩ := Look.tup hS lx
      subst e1
      refine ⟨_, op_repT, p, k, vs, rfl, ly.int hS, by rw [ok.hK]; exact h1, fun e => hz.1 ?_, hz.2.1, hz.2.2.1, by rw [← l1]; exact hz.2.2.2, fun z hz => q _ _ ?_⟩
      · subst e
        exact List.eq_nil_of_length_eq_zero l1
      · exact St.newTup (rep_lst l1 _) hz (s1.times l1 _)
    · rw [if_neg hz] at hF; cases hF
  · cases hF
theorem ok_mod : OkB Γ (binaryOp .Mod) (w2 fMod) := okB_of fun X ok H L x y d e o hS lx ly hF Q q => by
  unfold fMod at hF
  split at hF
  · rename_i i j
    by_cases hz : 0 < j
    · rw [if_pos hz] at hF
      have e1 := Option.some.inj hF
      subst e1
      exact ⟨_, op_mod, _, _, lx.int hS, ly.int hS, hz, q _ H (hS.flat rfl)⟩
    · rw [if_neg hz] at hF; cases hF
  · cases hF
theorem ok_div : OkB Γ (binaryOp .FloorDiv) (w2 fDiv) := okB_of fun X ok H L x y d e o hS lx ly hF Q q => by
  unfold fDiv at hF
  split at hF
  · rename_i i j
    by_cases hz : 0 < j ∧ j < 1073741824
    · rw [if_pos hz] at hF
      have e1 := Option.some.inj hF
      subst e1
      exact ⟨_, op_fdiv, _, _, lx.int hS, ly.int hS, hz, q _ H (hS.flat rfl)⟩
    · rw [if_neg hz] at hF; cases hF
  · cases hF
theorem ok_pow : OkB Γ (binaryOp .Pow) (w2 fPow) := okB_of fun X ok H L x y d e o hS lx ly hF Q q => by
  unfold fPow at hF
  split at hF
  · rename_i i j
    by_cases hz : 0 ≤ j ∧ j ≤ 1000000 ∧ i.natAbs < 2 ^ 64
    · rw [if_pos hz] at hF
      have e1 := Option.some.inj hF
      subst e1
      exact ⟨_, op_pow, _, _, lx.int hS, ly.int hS, hz, q _ H (hS.flat rfl)⟩
    · rw [if_neg hz] at hF; cases hF
  · cases hF
theorem ok_neg : OkU Γ (unaryOp .USub) (w1 fNeg) := fun X ok H L x d o hS lx hF Q q => by
  have hF : fNeg d = some o := hF
  unfold fNeg at hF
  split at hF
  · have e1 := Option.some.inj hF
    subst e1
    exact ⟨_, un_neg, _, lx.int hS, q _ H (hS.flat rfl)⟩
  · cases hF
theorem ok_lt : OkB Γ (compareOp .Lt) (bO (w2b fLt)) := okb_of fun X ok H L x y d e k hS lx ly hF Q q => by
  unfold fLt at hF
  split at hF
  · have e1 := Option.some.inj hF
    subst e1
    exact ⟨_, op_lt, _, _, lx.int hS, ly.int hS, q⟩
  · have e1 := Option.some.inj hF
    subst e1
    exact ⟨_, op_lt_str, _, _, lx.str hS, ly.str hS, q⟩
  · cases hF
theorem ok_le : OkB Γ (compareOp .LtE) (bO (w2b fLe)) := okb_of fun X ok H L x y d e k hS lx ly hF Q q => by
  unfold fLe at hF
  split at hF
  · have e1 := Option.some.inj hF
    subst e1
    exact ⟨_, op_le, _, _, lx.int hS, ly.int hS, q⟩
  · have e1 := Option.some.inj hF
    subst e1
    exact ⟨_, op_le_str, _, _, lx.str hS, ly.str hS, q⟩
  · cases hF
theorem ok_ge : OkB Γ (compareOp .GtE) (bO (w2b fGe)) := okb_of fun X ok H L x y d e k hS lx ly hF Q q => by
  unfold fGe at hF
  split at hF
  · have e1 := Option.some.inj hF
    subst e1
    exact ⟨_, op_ge, _, _, lx.int hS, ly.int hS, q⟩
  · have e1 := Option.some.inj hF
    subst e1
    exact ⟨_, op_ge_str, _, _, lx.str hS, ly.str hS, q⟩
  · cases hF
theorem fEqD_some {a b : D} {k : Bool} (h : fEqD a b = some k) : ∃ p q, a.py = some p ∧ b.py = some q ∧ SeqAt.shaped p = true ∧ SeqAt.shaped q = true ∧ k = PyData.eqv p q := by
  unfold fEqD at h
  cases q1 : a.py with
  | none => rw [q1] at h; cases h
  | some p =>
    cases q2 : b.py with
    | none => rw [q1, q2] at h; cases h
    | some q =>
      rw [q1, q2] at h
      by_cases hz : (SeqAt.shaped p && SeqAt.shaped q) = true
      · simp only [if_pos hz] at h
        obtain ⟨z1, z2⟩ := Bool.and_eq_true_iff.mp hz
        exact ⟨p, q, rfl, rfl, z1, z2, (Option.some.inj h).symm⟩
      · simp only [if_neg hz] at h; cases h
theorem fEq_some {a b : D} {k : Bool} (h : fEq a b = some k) : (∃ x y, a = .str x ∧ b = .str y ∧ k = decide (x = y)) ∨ fEqD a b = some k := by
  unfold fEq at h
  split at h
  · exact .inl ⟨_, _, rfl, rfl, (Option.some.inj h).symm⟩
  all_goals first
    | exact .inr h
    | cases h
theorem ok_eq : OkB Γ (compareOp .Eq) (bO (w2b fEq)) := okb_of fun X ok H L x y d e k hS lx ly hF Q q => by
  rcases fEq_some hF with ⟨a, b, rfl, rfl, e1⟩ | hF
  · subst e1
    have ex := lx.str hS
    have ey := ly.str hS
    subst ex ey
    refine ⟨_, op_eq, rfl, ?_⟩
    have e : decide (V.str a = V.str b) = decide (a = b) := by by_cases h : a = b <;> simp [h]
    rw [e]; exact q
  · obtain ⟨p, r, h1, h2, h3, h4, e1⟩ := fEqD_some hF
    subst e1
    exact ⟨_, op_eqD ok.room.units, p, r, by rw [ok.hK]; exact rep_dp (lx.rep hS) h1, by rw [ok.hK]; exact rep_dp (ly.rep hS) h2, h3, h4, q⟩
theorem ok_ne : OkB Γ (compareOp .NotEq) (bO (w2b fNe)) := okb_of fun X ok H L x y d e k hS lx ly hF Q q => by
  unfold fNe at hF
  cases q1 : fEq d e with
  | none => rw [q1] at hF; cases hF
  | some k1 =>
    rw [q1] at hF
    have e2 := Option.some.inj hF
    subst e2
    rcases fEq_some q1 with ⟨a, b, rfl, rfl, e1⟩ | hF
    · subst e1
      have ex := lx.str hS
      have ey := ly.str hS
      subst ex ey
      refine ⟨_, op_ne, rfl, ?_⟩
      have e : decide (V.str a = V.str b) = decide (a = b) := by by_cases h : a = b <;> simp [h]
      rw [e]; exact q
    · obtain ⟨p, r, h1, h2, h3, h4, e1⟩ := fEqD_some hF
      subst e1
      exact ⟨_, op_neD ok.room.units, p, r, by rw [ok.hK]; exact rep_dp (lx.rep hS) h1, by rw [ok.hK]; exact rep_dp (ly.rep hS) h2, h3, h4, q⟩
section
variable {X : Cx}
def rInT (K : PySem.W.Frag) (neg : Bool) : R2 := fun x y H Q => ∃ d ds, Dp K H x d ∧ Dp K H y (.tuple ds) ∧ SeqAt.shaped d = true ∧ SeqAt.shaped (.list ds) = true ∧ Q (.bl (if neg = true then !ds.any fun z => PyData.eqv z d else ds.any fun z => PyData.eqv z d)) H
theorem op_inT (hu : X.A.units + 65 < cLine) : OpR X (compareOp .In) (rInT X.K false) := by
  intro pins s σ H x y v u Q I rx ry h
  obtain ⟨d, ds, hd, he, sd, se, q⟩ := h
  obtain ⟨as, r1⟩ := Dp.reads I d x v hd rx
  obtain ⟨bs, r2⟩ := Dp.reads I (.tuple ds) y u he ry
  have hc : PyData.canLayAll0 ds = true := by
    have z := SeqAt.canLay_of_shaped se
    rw [PyData.canLay0] at z; exact z
  exact SeqAt.in_tuple_reads r2 r1 hc (SeqAt.canLay_of_shaped sd) (room_in_shaped sd hu) ⟨.bl _, H, I, rfl, q⟩
end
theorem pys_tup {l : List D} {r : List PyData} (h : D.pys l = some r) : D.py (.tup l) = some (.tuple r) ∧ D.py (.lst l) = some (.list r) := by
  constructor
  · rw [D.py, h]
  · rw [D.py, h]
theorem ok_in : OkB Γ (compareOp .In) (bO (w2b fIn)) := okb_of fun X ok H L x y d e k hS lx ly hF Q q => by
  have hu : X.A.units + 65 < cLine := by have := ok.room.un; omega
  unfold fIn at hF
  split at hF
  · have e1 := Option.some.inj hF
    subst e1
    exact ⟨_, op_in_str, _, _, lx.str hS, ly.str hS, q⟩
  · rename_i l
    cases q1 : d.py with
    | none => rw [q1] at hF; cases hF
    | some p =>
      cases q2 : D.pys l with
      | none => rw [q1, q2] at hF; cases hF
      | some r =>
        rw [q1, q2] at hF
        by_cases hz : (SeqAt.shaped p && SeqAt.shaped (.list r)) = true
        · simp only [if_pos hz] at hF
          have e1 := Option.some.inj hF
          subst e1
          obtain ⟨z1, z2⟩ := Bool.and_eq_true_iff.mp hz
          exact ⟨_, op_inD hu, p, r, by rw [ok.hK]; exact rep_dp (lx.rep hS) q1, by rw [ok.hK]; exact rep_dp (ly.rep hS) (pys_tup q2).2, z1, z2, q⟩
        · simp only [if_neg hz] at hF; cases hF
  · rename_i l
    cases q1 : d.py with
    | none => rw [q1] at hF; cases hF
    | some p =>
      cases q2 : D.pys l with
      | none => rw [q1, q2] at hF; cases hF
      | some r =>
        rw [q1, q2] at hF
        by_cases hz : (SeqAt.shaped p && SeqAt.shaped (.list r)) = true
        · simp only [if_pos hz] at hF
          have e1 := Option.some.inj hF
          subst e1
          obtain ⟨z1, z2⟩ := Bool.and_eq_true_iff.mp hz
          exact ⟨_, op_inT hu, p, r, by rw [ok.hK]; exact rep_dp (lx.rep hS) q1, by rw [ok.hK]; exact rep_dp (ly.rep hS) (pys_tup q2).1, z1, z2, q⟩
        · simp only [if_neg hz] at hF; cases hF
  · cases hF
theorem ok_ix : OkX Γ (w2 fIx) := fun X ok H L x y d e o hS lx ly hF Q q => by
  have hF : fIx d e = some o := hF
  unfold fIx at hF
  split at hF
  · rename_i l k _
    cases q1 : ixN l.length k with
    | none => rw [q1] at hF; cases hF
    | some j =>
      rw [q1] at hF
      cases q2 : l[j]? with
      | none => simp only [q2] at hF; cases hF
      | some z =>
        simp only [q2] at hF
        have e1 := Option.some.inj hF
        subst e1
        obtain ⟨p, vs, e1, h1, l1, s1⟩ := Look.lst hS lx
        obtain ⟨v, g1, g2⟩ := reps_at l1 q2
        exact ⟨_, ix_list, p, vs, k, v, e1, ly.int hS, by rw [ok.hK]; exact h1, atI_of l1.symm q1 g1, q v H (s1.pick g2)⟩
  · rename_i l k _
    cases q1 : ixN l.length k with
    | none => rw [q1] at hF; cases hF
    | some j =>
      rw [q1] at hF
      cases q2 : l[j]? with
      | none => simp only [q2] at hF; cases hF
      | some z =>
        simp only [q2] at hF
        have e1 := Option.some.inj hF
        subst e1
        obtain ⟨p, vs, e1, h1, l1, s1⟩ := Look.tup hS lx
        obtain ⟨v, g1, g2⟩ := reps_at l1 q2
        exact ⟨_, ix_tup, p, vs, k, v, e1, ly.int hS, by rw [ok.hK]; exact h1, atI_of l1.symm q1 g1, q v H (s1.pick g2)⟩
  · rename_i z k _
    by_cases hz : z.length ≤ sizeLine
    · rw [if_pos hz] at hF
      cases q1 : ixN z.cps.toList.length k with
      | none => rw [q1] at hF; cases hF
      | some j =>
        rw [q1] at hF
        cases q2 : z.cps.toList[j]? with
        | none => simp only [q2] at hF; cases hF
        | some c =>
          simp only [q2] at hF
          have e1 := Option.some.inj hF
          subst e1
          refine ⟨_, ix_str, z, k, c, lx.str hS, ly.int hS, hz, ?_, q _ H (hS.flat rfl)⟩
          unfold atI
          rw [q1]; exact q2
    · rw [if_neg hz] at hF; cases hF
  · cases hF
end
end BM
set_option Elab.async false
set_option linter.all false
set_option maxRecDepth 100000
set_option maxHeartbeats 4000000
namespace BM
open PySem PySem.Spec PyProof.Rows L2
variable [Tb]
def fLen : D → Option O
  | .str x => if x.length ≤ sizeLine then some (.d (.int x.length)) else none
  | .lst l => some (.d (.int l.length))
  | .tup l => some (.d (.int l.length))
  | _ => none
def fList : D → Option O
  | .lst l => some (.lst (leaf l))
  | .tup l => some (.lst (leaf l))
  | _ => none
def fTuple : D → Option O
  | .lst l => some (.d (.tup l))
  | .tup l => some (.d (.tup l))
  | _ => none
def fMin2 : D → D → Option O
  | .int i, .int j => some (.d (.int (if j < i then j else i)))
  | _, _ => none
def fMax2 : D → D → Option O
  | .int i, .int j => some (.d (.int (if j > i then j else i)))
  | _, _ => none
def isBl : D → Bool
  | .bl _ => true
  | _ => false
def blD : D → Bool
  | .bl b => b
  | _ => false
def strD : D → Str
  | .str x => x
  | _ => Str.empty
def fAll : D → Option O
  | .lst l => if l.all isBl = true then some (.d (.bl (l.all blD))) else none
  | _ => none
def pyD (d : D) : PyData := (D.py d).getD .none
def isTupNon : PyData → Bool
  | .tuple _ => true
  | .none => true
  | _ => false
def srtD (l : List D) : List D := l.mergeSort (PySem.W.dataLe false pyD)
section
variable {Γ : Gm}
theorem okC1 {f : Value} {g : D → Option O} (h : ∀ X, Γ.Ok X → ∀ H L x d o, St Γ.cfg.K H L → Look L d x → g d = some o → ∀ Q : VK, (∀ v H', St Γ.cfg.K H' (.rep o v :: L) → Q v H') → WC X f [x] H Q) : OkC Γ f (w1 g) := by
  intro X ok H L vs ds o hS lx hF Q q
  match ds, vs, lx, hF with
  | [d], [x], .cons l1 .nil, hF => exact h X ok H L x d o hS l1 hF Q q
  | [], _, _, hF => cases hF
  | _ :: _ :: _, _, _, hF => cases hF
theorem okC2 {f : Value} {g : D → D → Option O} (h : ∀ X, Γ.Ok X → ∀ H L x y d e o, St Γ.cfg.K H L → Look L d x → Look L e y → g d e = some o → ∀ Q : VK, (∀ v H', St Γ.cfg.K H' (.rep o v :: L) → Q v H') → WC X f [x, y] H Q) : OkC Γ f (w2 g) := by
  intro X ok H L vs ds o hS lx hF Q q
  match ds, vs, lx, hF with
  | [d, e], [x, y], .cons l1 (.cons l2 .nil), hF => exact h X ok H L x y d e o hS l1 l2 hF Q q
  | [], _, _, hF => cases hF
  | [_], _, _, hF => cases hF
  | _ :: _ :: _ :: _, _, _, hF => cases hF
theorem ok_len : OkC Γ (.builtin "len") (w1 fLen) := okC1 fun X ok H L x d o hS lx hF Q q => by
  unfold fLen at hF
  split at hF
  · rename_i z
    by_cases hz : z.length ≤ sizeLine
    · rw [if_pos hz] at hF
      have e1 := Option.some.inj hF
      subst e1
      exact ⟨_, call_len_str, z, by rw [lx.str hS], hz, q _ H (hS.flat rfl)⟩
    · rw [if_neg hz] at hF; cases hF
  · have e1 := Option.some.inj hF
    subst e1
    obtain ⟨p, vs, e1, h1, l1, s1⟩ := Look.lst hS lx
    subst e1
    exact ⟨_, call_len_seq, p, vs, rfl, .inl (by rw [ok.hK]; exact h1), q _ H (by rw [← l1]; exact hS.flat rfl)⟩
  · have e1 := Option.some.inj hF
    subst e1
    obtain ⟨p, vs, e1, h1, l1, s1⟩ := Look.tup hS lx
    subst e1
    exact ⟨_, call_len_seq, p, vs, rfl, .inr (by rw [ok.hK]; exact h1), q _ H (by rw [← l1]; exact hS.flat rfl)⟩
  · cases hF
theorem ok_list : OkC Γ (.type "list") (w1 fList) := okC1 fun X ok H L x d o hS lx hF Q q => by
  unfold fList at hF
  split at hF
  · have e1 := Option.some.inj hF
    subst e1
    obtain ⟨p, vs, e1, h1, l1, s1⟩ := Look.lst hS lx
    subst e1
    exact ⟨_, call_list_of, p, vs, rfl, .inl (by rw [ok.hK]; exact h1), fun z hz => q _ _ (St.newLst l1 hz s1)⟩
  · have e1 := Option.some.inj hF
    subst e1
    obtain ⟨p, vs, e1, h1, l1, s1⟩ := Look.tup hS lx
    subst e1
    exact ⟨_, call_list_of, p, vs, rfl, .inr (by rw [ok.hK]; exact h1), fun z hz => q _ _ (St.newLst l1 hz s1)⟩
  · cases hF
theorem ok_tuple : OkC Γ (.type "tuple") (w1 fTuple) := okC1 fun X ok H L x d o hS lx hF Q q => by
  unfold fTuple at hF
  split at hF
  · have e1 := Option.some.inj hF
    subst e1
    obtain ⟨p, vs, e1, h1, l1, s1⟩ := Look.lst hS lx
    subst e1
    exact ⟨_, call_tuple_of, p, vs, rfl, .inl ⟨by rw [ok.hK]; exact h1, fun z hz => q _ _ (St.newTup l1 hz s1)⟩⟩
  · have e1 := Option.some.inj hF
    subst e1
    obtain ⟨p, vs, e1, h1, l1, s1⟩ := Look.tup hS lx
    subst e1
    exact ⟨_, call_tuple_of, p, vs, rfl, .inr ⟨by rw [ok.hK]; exact h1, q _ H (lx.tupSt hS)⟩⟩
  · cases hF
theorem ok_min2 : OkC Γ (.builtin "min") (w2 fMin2) := okC2 fun X ok H L x y d e o hS lx ly hF Q q => by
  unfold fMin2 at hF
  split at hF
  · have e1 := Option.some.inj hF
    subst e1
    exact ⟨_, call_min2 ok.calm, _, _, by rw [lx.int hS, ly.int hS], q _ H (hS.flat rfl)⟩
  · cases hF
theorem reps_bls {K : PySem.W.Frag} {H : Hp} : ∀ {l : List D} {vs : List V}, l.all isBl = true → Reps K H l vs → vs = (l.map blD).map V.bl
  | [], vs, _, r => by rw [Reps] at r; exact r
  | d :: l, vs, h, r => by
    rw [Reps] at r
    obtain ⟨v, r', e, h1, h2⟩ := r
    have h' : isBl d = true ∧ l.all isBl = true := by simpa using h
    subst e
    cases d with
    | bl b =>
      rw [Rep] at h1
      subst h1
      rw [reps_bls h'.2 h2]; rfl
    | _ => cases h'.1
theorem Look.lstR {K : PySem.W.Frag} {H : Hp} {L : List It} {l : List D} {x : V} (k : Look L (.lst l) x) (h : St K H L) : ∃ a vs, x = .ref a ∧ SqL K H a vs ∧ Reps K H l vs := by
  have r := k.rep h
  rw [Rep] at r; exact r
theorem ok_all : OkC Γ (.builtin "all") (w1 fAll) := okC1 fun X ok H L x d o hS lx hF Q q => by
  unfold fAll at hF
  split at hF
  · rename_i l
    by_cases hz : l.all isBl = true
    · rw [if_pos hz] at hF
      have e1 := Option.some.inj hF
      subst e1
      obtain ⟨a, vs, e, h1, h2⟩ := lx.lstR hS
      have e2 := reps_bls hz h2
      subst e e2
      exact ⟨_, cr_all ok.calm, a, l.map blD, rfl, by rw [ok.hK]; exact h1, q _ H (by rw [List.all_map]; exact hS.flat rfl)⟩
    · rw [if_neg hz] at hF; cases hF
  · cases hF
section
variable {X : Cx}
theorem each_zip {R : Value → D × V → Prop} : ∀ {ds : List D} {xs : List V} {us : List Value}, Vals xs us → ds.length = xs.length → (∀ (d : D) (x : V) (u : Value), (d, x) ∈ ds.zip xs → RelV x u → R u (d, x)) → PySem.W.EachIs R us (ds.zip xs)
  | [], [], us, rv, _, _ => by cases rv; exact .nil
  | d :: ds, x :: xs, us, rv, hl, h => by
    cases rv with
    | cons r rs => exact .cons (h d x _ List.mem_cons_self r) (each_zip rs (by simpa using hl) fun d x u hm r => h d x u (List.mem_cons_of_mem _ hm) r)
  | [], _ :: _, _, _, hl, _ => by cases hl
  | _ :: _, [], _, _, hl, _ => by cases hl
theorem vals_each : ∀ {us : List Value} {ps : List (D × V)}, PySem.W.EachIs (fun u p => RelV p.2 u) us ps → Vals (ps.map (·.2)) us
  | us, [], h => by cases h; exact .nil
  | us, p :: ps, h => by
    cases h with
    | cons h hs => exact .cons h (vals_each hs)
theorem reps_mem {K : PySem.W.Frag} {H : Hp} : ∀ {ds : List D} {xs : List V} {d : D} {x : V}, Reps K H ds xs → (d, x) ∈ ds.zip xs → Rep K H d x
  | [], xs, d, x, _, h => by simp at h
  | e :: ds, xs, d, x, r, h => by
    rw [Reps] at r
    obtain ⟨v, r', e1, h1, h2⟩ := r
    subst e1
    rcases List.mem_cons.mp h with e2 | h
    · cases e2; exact h1
    · exact reps_mem h2 h
theorem pyD_some {d : D} {p : PyData} (h : D.py d = some p) : pyD d = p := by unfold pyD; rw [h]; rfl
theorem map_fst_zip {ds : List D} {xs : List V} (hl : ds.length = xs.length) : (ds.zip xs).map (fun p => pyD p.1) = ds.map pyD := by
  have e : (ds.zip xs).map (fun p => pyD p.1) = ((ds.zip xs).map (·.1)).map pyD := by rw [List.map_map]; rfl
  rw [e, List.map_fst_zip (by omega)]
def srtP (ps : List (D × V)) : List (D × V) := ps.mergeSort (PySem.W.dataLe false fun p => pyD p.1)
theorem srtP_fst {ds : List D} {xs : List V} (hl : ds.length = xs.length) : (srtP (ds.zip xs)).map (·.1) = srtD ds := by
  unfold srtP srtD
  rw [List.map_mergeSort (r := PySem.W.dataLe false fun p : D × V => pyD p.1) (s := PySem.W.dataLe false pyD) (f := fun p : D × V => p.1) (fun _ _ _ _ => rfl), List.map_fst_zip (by omega)]
theorem srtP_perm (ps : List (D × V)) : (srtP ps).Perm ps := List.mergeSort_perm _ _
theorem tupNon_no {p : PyData} (h : (!isTupNon p) = true) : p ≠ .none ∧ ∀ xs, p ≠ .tuple xs := by
  constructor
  · intro e; subst e; cases h
  · intro xs e; subst e; cases h
end
theorem reps_zip : ∀ {ds : List D} {vs : List V}, ds.length = vs.length → reps (leaf ds) vs = (ds.zip vs).map fun p => It.rep (.d p.1) p.2
  | [], [], _ => rfl
  | d :: ds, v :: vs, h => by
    show It.rep (.d d) v :: reps (leaf ds) vs = It.rep (.d d) v :: (ds.zip vs).map _
    rw [reps_zip (by simpa using h)]
  | [], _ :: _, h => by cases h
  | _ :: _, [], h => by cases h
theorem St.repsH {K : PySem.W.Frag} {H : Hp} {L : List It} : ∀ {ds : List D} {vs : List V}, ds.length = vs.length → St K H (reps (leaf ds) vs ++ L) → Reps K H ds vs
  | [], [], _, _ => by rw [Reps]
  | d :: ds, v :: vs, h, hS => by
    have hS : St K H (.rep (.d d) v :: (reps (leaf ds) vs ++ L)) := hS
    rw [Reps]
    exact ⟨v, vs, rfl, hS.repH, St.repsH (by simpa using h) hS.drop⟩
  | [], _ :: _, h, _ => by cases h
  | _ :: _, [], h, _ => by cases h
end
end BM
set_option Elab.async false
set_option linter.all false
set_option maxRecDepth 100000
set_option maxHeartbeats 4000000
namespace BM
open PySem PySem.Spec PyProof.Rows L2
variable [Tb]
/-- a name as a place -/
def mPl (i : Nat) : M Od := fun s => match s[i]? with
  | some (some o) => some (.plc i, s)
  | _ => none
def iS (m : M O) : M (List D) := fun s => match m s with
  | some (o, s') => match listOfD o.toD with
    | some l => some (l, s')
    | none => none
  | none => none
def gTpS (gs : List (D → M Unit)) : D → M Unit := fun d => match listOfD d with
  | some ds => gTs gs ds
  | none => mfail
def mRev (m : M O) : M O := fun s => match m s with
  | some (o, s') => (match o.toD with
    | .lst l => some (.lst (leaf l.reverse), s')
    | _ => none)
  | none => none
theorem zip_rev {α β : Type} : ∀ {a : List α} {b : List β}, a.length = b.length → a.reverse.zip b.reverse = (a.zip b).reverse
  | [], [], _ => rfl
  | x :: a, y :: b, h => by
    have h' : a.length = b.length := by simpa using h
    rw [List.reverse_cons, List.reverse_cons, List.zip_append (by simp [h']), zip_rev h', List.zip_cons_cons, List.zip_cons_cons, List.reverse_cons]; rfl
  | [], _ :: _, h => by cases h
  | _ :: _, [], h => by cases h
section
variable {Γ : Gm} {e tg : Expr} {p pos p1 p2 p3 : Pos} {x : Str} {m : M O}
theorem sod_pl (i : Nat) (hN : Γ.N[i]? = some x := by rfl) (hv : Γ.vis x = true := by kernel_rfl) (hd : (x == ("__debug__" : Str)) = false := by kernel_rfl) (hcd : (x == ("__classdict__" : Str)) = false := by kernel_rfl) : Sod Γ (.Name x p) (mPl i) := sod_plc i hN hv hd hcd
theorem si_seq (h : Sd Γ e m) : Si Γ tg e (iS m) := ⟨fun X ok env ds env' hm σ H T hr R q => by
  unfold iS at hm
  cases q1 : m env with
  | none => rw [q1] at hm; cases hm
  | some r =>
    obtain ⟨o, s1⟩ := r
    rw [q1] at hm
    cases q2 : o.toD with
    | lst l =>
      simp only [q2, listOfD] at hm
      refine (si_list h).run X ok env ds env' ?_ σ H T hr R q
      unfold iL
      simp only [q1, q2]
      exact hm
    | tup l =>
      simp only [q2, listOfD] at hm
      refine (si_tup h).run X ok env ds env' ?_ σ H T hr R q
      unfold iT
      simp only [q1, q2]
      exact hm
    | non => simp only [q2, listOfD] at hm; cases hm
    | bl _ => simp only [q2, listOfD] at hm; cases hm
    | int _ => simp only [q2, listOfD] at hm; cases hm
    | str _ => simp only [q2, listOfD] at hm; cases hm
    | dct _ => simp only [q2, listOfD] at hm; cases hm
    | obj _ _ _ => simp only [q2, listOfD] at hm; cases hm⟩
theorem sg_tpS {ts : List Expr} {k : Nat} {gs : List (D → M Unit)} {A : List Nat} {n : Nat} (h : Sgs Γ ts gs A) (hl : gs.length = n := by rfl) (hn : ∀ env : PySem.Env, (assignEach ts env).length = n := by intro _; rfl)
    (hst : ∀ env : PySem.Env, (assignEach ts env).findIdx? (·.1) = none := by intro _; rfl) : Sg Γ (.Tuple ts k pos) (gTpS gs) A := ⟨fun X ok env d env' hm σ H T v hr Q q => by
  cases d with
  | tup l => exact (sg_tp h hl hn hst).run X ok env (.tup l) env' hm σ H T v hr Q q
  | lst l => exact (sg_tpL h hl hn hst).run X ok env (.lst l) env' hm σ H T v hr Q q
  | _ => cases hm⟩
theorem sd_rev {k : Nat} (h : Sd Γ e m) : Sd Γ (.Subscript e (.Slice none none (some (.UnaryOp .USub (.Constant (.int 1) k p1) p2)) p3) pos) (mRev m) := ⟨fun X ok env o env' hm σ H T hr Q q => by
  unfold mRev at hm
  cases q1 : m env with
  | none => rw [q1] at hm; cases hm
  | some r =>
    obtain ⟨o1, s1⟩ := r
    simp only [q1] at hm
    cases q2 : o1.toD with
    | lst l =>
      simp only [q2] at hm
      have e1 := Option.some.inj hm
      injection e1 with e1 e2
      subst e1 e2
      refine ⟨_, pe_revL (pe_best X e), h.run X ok env o1 s1 q1 σ H T hr _ fun v H' r => ?_⟩
      have r := r.freeze
      rw [q2] at r
      obtain ⟨L, hE, hS⟩ := r
      obtain ⟨a, vs, e1, h1, l1, s1'⟩ := St.read_lst (L := T ++ L) hS
      subst e1
      refine ⟨a, vs, rfl, by rw [ok.hK]; exact h1, fun p hp => q _ _ ⟨L, hE, ?_⟩⟩
      have s2 : St Γ.cfg.K H' (reps (leaf l.reverse) vs.reverse ++ (T ++ L)) := by
        rw [reps_zip (by simp [l1])]
        rw [reps_zip l1] at s1'
        refine (s1'.sub (List.Sublist.append_left (List.sublist_cons_self _ _) _)).perm (List.Perm.append_right _ ?_)
        rw [zip_rev l1, List.map_reverse]
        exact (List.reverse_perm _).symm
      exact St.newLst (by simp [l1]) hp s2
    | non => simp only [q2] at hm; cases hm
    | bl _ => simp only [q2] at hm; cases hm
    | int _ => simp only [q2] at hm; cases hm
    | str _ => simp only [q2] at hm; cases hm
    | tup _ => simp only [q2] at hm; cases hm
    | dct _ => simp only [q2] at hm; cases hm
    | obj _ _ _ => simp only [q2] at hm; cases hm⟩
end
end BM
set_option Elab.async false
set_option linter.all false
set_option maxRecDepth 100000
set_option maxHeartbeats 4000000
namespace BM
open PySem PySem.Spec PyProof.Rows L2
variable [Tb]
def txKey : Value → Str
  | .str k _ => k
  | _ => Str.empty
/-- a set whose members are the texts ks (each once) -/
def TxR (P : Program) (w : World) (h : Heap) (a : Addr) (ks : List Str) : Prop :=
  ∃ o es ep t, h.get? a = some o ∧ o.ExactSet ∧ o.data = .set es ep t ∧ ElemsOf (PySem.strKind P w) es.toList ∧ (es.toList.map fun e => txKey e.2).Perm ks ∧ es.size < scanBound ∧ t.fits es.size = true ∧
    Ris t.place.toList ∧ (w.params.followText "set-order" = true ∨ t.led = true)
section
variable {P : Program} {w : World} {A : Around} {E : Value → Shared → Prop} {s : Shared} {a : Addr} {ks : List Str}
theorem TxR.at {h h' : Heap} (R : TxR P w h a ks) (k : ∀ o, h.get? a = some o → h'.get? a = some o) : TxR P w h' a ks := by
  obtain ⟨o, es, ep, t, ho, r⟩ := R
  exact ⟨o, es, ep, t, k o ho, r⟩
theorem TxR.perm {h : Heap} {ks' : List Str} (R : TxR P w h a ks) (p : ks.Perm ks') : TxR P w h a ks' := by
  obtain ⟨o, es, ep, t, h1, h2, h3, h4, h5, r⟩ := R
  exact ⟨o, es, ep, t, h1, h2, h3, h4, h5.trans p, r⟩
end
end BM
set_option Elab.async false
set_option linter.all false
set_option maxRecDepth 100000
set_option maxHeartbeats 4000000
namespace BM
open PySem PySem.Spec PyProof.Rows L2
end BM
set_option Elab.async false
set_option linter.all false
set_option maxRecDepth 100000
set_option maxHeartbeats 4000000
namespace BM
open PySem PySem.Spec PyProof.Rows L2
variable [Tb]
section
variable {s s0 s1 s2 s3 s4 : Env} {o o1 o2 o3 r : O} {a b c m : M O} {F : List D → Option O} {G : List D → Option Bool} {t u : M Bool} {k : Bool}
theorem x_bind {α β : Type} {m : M α} {f : α → M β} {v : α} {r : Option (β × Env)} (h : m s = some (v, s1)) (h2 : f v s1 = r) : mbind m f s = r := by
  unfold mbind; rw [h]; exact h2
theorem x_ret (h : m s = some (o, s1)) : sRet m s = some (.rt o, s1) := x_bind h rfl
theorem x_expr (h : m s = some (o, s1)) : sExpr m s = some (.nx, s1) := x_bind h rfl
theorem x_seq {x y : M Fl} {r : Option (Fl × Env)} (h : x s = some (.nx, s1)) (h2 : y s1 = r) : sSeq x y s = r := x_bind h h2
theorem x_set {i : Nat} (h : m s = some (o, s1)) (hi : Nat.ble (i + 1) s1.length = true := by rfl) (hs : s1.set i (some (.d o.toD)) = s2 := by rfl) : sSet i m s = some (.nx, s2) := x_bind h (x_bind (by unfold mset; rw [if_pos (show i < s1.length from Nat.le_of_ble_eq_true hi), hs]) rfl)
theorem x_val {v : O} (h : m s = some (v, s1)) : mval m s = some (.val v.toD, s1) := by unfold mval; rw [h]
theorem x_ops1 {A : M Od} {x : Od} {d : D} (h : A s = some (x, s1)) (g : x.get s1 = some d) : mops [A] s = some ([d], s1) := by
  unfold mops
  rw [show mods [A] s = some ([x], s1) from x_bind h (x_bind (s1 := s1) (v := []) rfl rfl)]
  simp only [odsGet, g]
theorem x_ops2 {A B : M Od} {x y : Od} {d e : D} (h : A s = some (x, s1)) (h2 : B s1 = some (y, s2)) (g : x.get s2 = some d) (g2 : y.get s2 = some e) : mops [A, B] s = some ([d, e], s2) := by
  unfold mops
  rw [show mods [A, B] s = some ([x, y], s2) from x_bind h (x_bind (v := [y]) (s1 := s2) (x_bind h2 (x_bind (v := []) (s1 := s2) rfl rfl)) rfl)]
  simp only [odsGet, g, g2]
theorem x_op1 {A : M Od} {x : Od} {d : D} (h : A s = some (x, s1)) (g : x.get s1 = some d) (hF : F [d] = some r) : mOp F [A] s = some (r, s1) := by
  unfold mOp; rw [x_ops1 h g]; simp only [hF]
theorem x_op2 {A B : M Od} {x y : Od} {d e : D} (h : A s = some (x, s1)) (h2 : B s1 = some (y, s2)) (g : x.get s2 = some d) (g2 : y.get s2 = some e) (hF : F [d, e] = some r) : mOp F [A, B] s = some (r, s2) := by
  unfold mOp; rw [x_ops2 h h2 g g2]; simp only [hF]
theorem x_v1 (h : a s = some (o, s1)) (hF : F [o.toD] = some r) : mOp F [mval a] s = some (r, s1) := x_op1 (x_val h) rfl hF
theorem x_v2 (h : a s = some (o, s1)) (h2 : b s1 = some (o2, s2)) (hF : F [o.toD, o2.toD] = some r) : mOp F [mval a, mval b] s = some (r, s2) := x_op2 (x_val h) (x_val h2) rfl rfl hF
theorem x_t2 {A B : M Od} {x y : Od} {d e : D} (h : A s = some (x, s1)) (h2 : B s1 = some (y, s2)) (g : x.get s2 = some d) (g2 : y.get s2 = some e) (hF : G [d, e] = some k) : mTst G [A, B] s = some (k, s2) := by
  unfold mTst; rw [x_ops2 h h2 g g2]; simp only [hF]
theorem x_tv2 (h : a s = some (o, s1)) (h2 : b s1 = some (o2, s2)) (hF : G [o.toD, o2.toD] = some k) : mTst G [mval a, mval b] s = some (k, s2) := x_t2 (x_val h) (x_val h2) rfl rfl hF
theorem x_andF (h : t s = some (false, s1)) : tAnd t u s = some (false, s1) := x_bind h rfl
theorem x_andT {r : Option (Bool × Env)} (h : t s = some (true, s1)) (h2 : u s1 = r) : tAnd t u s = r := x_bind h h2
theorem x_sifF {x y : M Fl} {r : Option (Fl × Env)} (h : t s = some (false, s1)) (h2 : y s1 = r) : sIf t x y s = r := x_bind h h2
theorem x_args0 : mArgs [] s = some ([], s) := rfl
theorem x_args {ms : List (M O)} {os : List O} (h : m s = some (o, s1)) (h2 : mArgs ms s1 = some (os, s2)) : mArgs (m :: ms) s = some (o :: os, s2) := x_bind h (x_bind h2 rfl)
theorem x_tup {ms : List (M O)} {os : List O} (h : mArgs ms s = some (os, s1)) : mTup ms s = some (.d (.tup (O.toDs os)), s1) := x_bind h rfl
theorem x_lst {ms : List (M O)} {os : List O} (h : mArgs ms s = some (os, s1)) : mLst ms s = some (.lst os, s1) := x_bind h rfl
theorem x_iR1 {j : Int} (h : m s = some (.d (.int j), s1)) (hj : -(2 ^ 62) ≤ j ∧ j < 2 ^ 62) : iR1 m s = some (upto 0 j.toNat, s1) := by
  unfold iR1; rw [h]; simp only [if_pos hj]
/-- a loop by what stands behind i turns -/
theorem x_for {g : D → M Unit} {body : M Fl} {P : Nat → Env → Prop} : ∀ {ds : List D} {i : Nat} {s : Env}, P i s → (∀ j d s, ds[j]? = some d → P (i + j) s → ∃ s1 s2, g d s = some ((), s1) ∧ body s1 = some (.nx, s2) ∧ P (i + j + 1) s2) → ∃ s', forL g body ds s = some (.nx, s') ∧ P (i + ds.length) s'
  | [], i, s, p, _ => ⟨s, rfl, p⟩
  | d :: ds, i, s, p, H => by
    obtain ⟨s1, s2, h1, h2, p2⟩ := H 0 d s rfl p
    obtain ⟨s', h3, p3⟩ := x_for (s := s2) (ds := ds) (i := i + 1) p2 fun j e s he p => by
      have z := H (j + 1) e s (by simpa using he) (by rw [show i + (j + 1) = i + 1 + j by omega]; exact p)
      obtain ⟨a, b, c, d, e⟩ := z
      exact ⟨a, b, c, d, by rw [show i + 1 + j + 1 = i + (j + 1) + 1 by omega]; exact e⟩
    refine ⟨s', ?_, by rw [List.length_cons, show i + (ds.length + 1) = i + 1 + ds.length by omega]; exact p3⟩
    rw [forL]
    exact x_bind h1 (x_bind h2 h3)
theorem x_call {io : List Bool} {n : Nat} {body : M Fl} {os outs : List O} (hl : os.length = io.length) (hb : body (inE io os ++ List.replicate n none) = some (.rt o, s1)) (ho : outsM io os 0 s1 = some outs) : callM io n body os = some (o, outs) := by
  unfold callM; rw [if_pos hl, hb]; simp only [ho]
end
end BM
namespace BM
open PySem PySem.Spec PyProof.Rows L2
variable [Tb]
theorem reps_intL {K : PySem.W.Frag} {H : Hp} : ∀ ns : List Int, Reps K H (ns.map D.int) (ns.map V.int)
  | [] => by rw [List.map_nil, Reps]; rfl
  | n :: ns => by
    rw [List.map_cons, Reps]
    exact ⟨.int n, ns.map V.int, rfl, by rw [Rep], reps_intL ns⟩
/-- the script and the empty tables, ahead of everything -/
theorem St.script {K : PySem.W.Frag} {H : Hp} {a : Addr} {ns : List Int} (h : SqL K H a (ns.map V.int)) (ht : ∀ p ∈ Tb.tb, H p.1 = some (.tbl #[]) := by intro p hp; exact absurd hp List.not_mem_nil) (nd : (Tb.tb.map (·.1)).Nodup := by exact List.Pairwise.nil) : St K H (reps [.d (.lst (ns.map D.int))] [.ref a] ++ []) := by
  let G : Hp := fun b => if b ∈ Tb.tb.map (·.1) then none else H b
  have gT : ∀ b ∈ Tb.tb.map (·.1), G b = none := fun b hb => if_pos hb
  have gN : ∀ b o, H b = some o → (∀ ps, o ≠ .tbl ps) → G b = some o := fun b o e n => by
    show (if b ∈ Tb.tb.map (·.1) then none else H b) = some o
    rw [if_neg fun hb => by
      obtain ⟨p, hp, e2⟩ := List.mem_map.mp hb
      have z := ht p hp
      rw [e2, e] at z
      exact n _ (Option.some.inj z)]
    exact e
  have hG : SqL K G a (ns.map V.int) := by
    rcases h with (z | ⟨o, z⟩) | z
    · exact .inl (.inl (gN _ _ z fun ps y => by cases y))
    · exact .inl (.inr ⟨o, gN _ _ z fun ps y => by cases y⟩)
    · exact .inr z
  have key : ∀ l : List (Addr × Str), (∀ p ∈ l, p ∈ Tb.tb) → Sep K G H (l.map fun p => It.tab p.1 p.2) (l.map (·.1)) := by
    intro l
    induction l with
    | nil => intro _; exact rfl
    | cons p l ih =>
      intro hl
      exact ⟨[p.1], l.map (·.1), rfl, ⟨rfl, #[], ht p (hl p List.mem_cons_self), trivial, fun pos cv hc => by
        have z : codeAmong pos [] = some cv := hc
        simp [codeAmong] at z⟩, ih fun q hq => hl q (List.mem_cons_of_mem _ hq)⟩
  refine ⟨G, Tb.tb.map (fun p : Addr × Str => p.1), fun b o e => ?_, ⟨[], Tb.tb.map (fun p : Addr × Str => p.1), rfl, ?_, show Sep K G H tbs _ from key _ fun _ h => h⟩, nd, gT⟩
  · by_cases hb : b ∈ Tb.tb.map (·.1)
    · rw [gT b hb] at e; cases e
    · have e : (if b ∈ Tb.tb.map (·.1) then none else H b) = some o := e
      rw [if_neg hb] at e
      exact e
  · show Own K G H (.d (.lst (ns.map D.int))) (.ref a) []
    rw [Own, Rep]
    exact ⟨rfl, a, _, rfl, hG, reps_intL ns⟩
end BM
set_option Elab.async false
set_option linter.all false
set_option maxRecDepth 100000
set_option maxHeartbeats 4000000
namespace BM
open PySem PySem.Spec PyProof.Rows L2
variable [Tb]
mutual
def sz : PyData → Nat
  | .none => 4
  | .bool _ => 5
  | .int i => (toString i : Str).length
  | .str x => 10 * x.length + 2
  | .list xs => szs xs + 3
  | .tuple xs => szs xs + 3
  | .dict _ => 0
def szs : List PyData → Nat
  | [] => 0
  | x :: r => sz x + 2 + szs r
end
theorem shownAll_len (l : List PyData) : (PyData.shownAll l).length = l.length := by
  induction l with
  | nil => simp [PyData.shownAll]
  | cons x r ih => simp [PyData.shownAll, ih]
mutual
theorem shown_len : ∀ {p : PyData}, p.canLay0 = true → p.shown.length ≤ sz p
  | .none, _ => by simp only [PyData.shown, sz]; decide
  | .bool b, _ => by simp only [PyData.shown, sz]; cases b <;> decide
  | .int i, _ => by simp only [PyData.shown, sz]; exact Nat.le_refl _
  | .str x, h => by
    simp only [PyData.shown, sz]
    refine StrLaws.reprText_len x fun c hc => ?_
    have h' : PyData.strOk x = true := by simpa [PyData.canLay0] using h
    unfold PyData.strOk at h'
    rw [Array.all_eq_true'] at h'
    have z := h' c (by simpa using hc)
    have z2 : c < 0x110000 := by simpa using z
    omega
  | .list xs, h => by
    simp only [PyData.shown, sz]
    refine Nat.le_trans (listText_len_le _) ?_
    rw [shownAll_len]
    have z := shownAll_sum (xs := xs) (by simpa [PyData.canLay0] using h)
    omega
  | .tuple xs, h => by
    simp only [PyData.shown, sz]
    refine Nat.le_trans (tupleText_len_le _) ?_
    rw [shownAll_len]
    have z := shownAll_sum (xs := xs) (by simpa [PyData.canLay0] using h)
    omega
  | .dict _, h => by simp [PyData.canLay0] at h
theorem shownAll_sum : ∀ {xs : List PyData}, PyData.canLayAll0 xs = true → ((PyData.shownAll xs).map (·.length)).sum + 2 * xs.length ≤ szs xs
  | [], _ => by simp [PyData.shownAll, szs]
  | x :: r, h => by
    have h' : x.canLay0 = true ∧ PyData.canLayAll0 r = true := by simpa [PyData.canLayAll0] using h
    have h1 := shown_len h'.1
    have h2 := shownAll_sum h'.2
    simp only [PyData.shownAll, szs, List.map_cons, List.sum_cons, List.length_cons]
    omega
end
theorem pair_cmp {α : Type} {R : α → α → Prop} : ∀ {l : List α} {a b : α}, l.Pairwise R → a ∈ l → b ∈ l → a = b ∨ R a b ∨ R b a
  | x :: l, a, b, h, ha, hb => by
    rw [List.pairwise_cons] at h
    rcases List.mem_cons.mp ha with ea | ha <;> rcases List.mem_cons.mp hb with eb | hb
    · exact .inl (ea.trans eb.symm)
    · rw [ea]; exact .inr (.inl (h.1 b hb))
    · rw [eb]; exact .inr (.inr (h.1 a ha))
    · exact pair_cmp h.2 ha hb
theorem dle_iff {a b : D} : PySem.W.dataLe false pyD a b = !PySem.W.dataLt (pyD b) (pyD a) := rfl
theorem dlt_asymm {p q : PyData} (h : PySem.W.dataLt p q = true) : PySem.W.dataLt q p = false := by
  cases z : PySem.W.dataLt q p with
  | false => rfl
  | true =>
    have t := PyProof.Rows.lex_trans (O := PyProof.Rows.itemOrd) _ _ _ (show PyProof.Rows.lexLt PyProof.Rows.itemOrd (PySem.W.keyToks p) (PySem.W.keyToks q) = true from h) z
    have i := PyProof.Rows.lex_irrefl (O := PyProof.Rows.itemOrd) (PySem.W.keyToks p)
    rw [i] at t; cases t
theorem srt_unique {l l' : List D} (p : l.Perm l') (h : l'.Pairwise fun a b => PySem.W.dataLt (pyD a) (pyD b) = true) : srtD l = l' := by
  have tl := PySem.W.sortLe_total (PyProof.Rows.listOrd PyProof.Rows.itemOrd) false fun b : D => PySem.W.keyToks (pyD b)
  refine List.Perm.eq_of_pairwise (le := fun a b => PySem.W.dataLe false pyD a b = true) (fun a b ha hb h1 h2 => ?_) (List.pairwise_mergeSort tl.trans (fun a b => by rw [Bool.or_eq_true]; exact tl.total a b) l) (h.imp fun {a b} z => by rw [dle_iff, dlt_asymm z]; rfl) ((List.mergeSort_perm l _).trans p)
  have ha' : a ∈ l' := p.subset ((List.mergeSort_perm l _).subset ha)
  rcases pair_cmp h ha' hb with e | e | e
  · exact e
  · rw [dle_iff, e] at h2; cases h2
  · rw [dle_iff, e] at h1; cases h1
end BM
set_option Elab.async false
set_option linter.all false
set_option maxRecDepth 100000
set_option maxHeartbeats 4000000
namespace BM
open PySem PySem.Spec PyProof.Rows L2
variable [Tb]
def sLt (x y : Str) : Bool := decide (x.cps.toList < y.cps.toList)
theorem str_ext {x y : Str} (h : x.cps.toList = y.cps.toList) : x = y := by
  cases x; cases y
  simp only [Str.mk.injEq]
  exact Array.toList_inj.mp h
theorem sLt_irrefl (x : Str) : sLt x x = false := decide_eq_false (List.lt_irrefl _)
theorem sLt_trans {x y z : Str} (h1 : sLt x y = true) (h2 : sLt y z = true) : sLt x z = true := decide_eq_true (List.lt_trans (of_decide_eq_true h1) (of_decide_eq_true h2))
theorem sLt_total {x y : Str} (h : x ≠ y) : sLt x y = true ∨ sLt y x = true := by
  unfold sLt
  rcases Decidable.em (x.cps.toList < y.cps.toList) with z | z
  · exact .inl (decide_eq_true z)
  · rcases Decidable.em (y.cps.toList < x.cps.toList) with z2 | z2
    · exact .inr (decide_eq_true z2)
    · exact absurd (str_ext (List.le_antisymm (show x.cps.toList ≤ y.cps.toList from z2) (show y.cps.toList ≤ x.cps.toList from z))) h
theorem sLt_asymm {x y : Str} (h : sLt x y = true) : sLt y x = false := by
  cases z : sLt y x with
  | false => rfl
  | true => have t := sLt_trans h z; rw [sLt_irrefl] at t; cases t
def Asc (p : List Str) : Prop := p.Pairwise fun a b => sLt a b = true
end BM
set_option Elab.async false
set_option linter.all false
set_option maxRecDepth 100000
set_option maxHeartbeats 4000000
namespace BM
open PySem PySem.Spec PyProof.Rows L2
variable [Tb]
abbrev fo (g : List Str) : D := .tup (g.map D.str)
abbrev lo (l : List (List Str)) : D := .tup (l.map fo)
abbrev ll (l : List (List Str)) : D := .lst (l.map fo)
def gT (g : List Str) : PyData := .tuple (g.map .str)
/-- texts that may be compared -/
def okT (x : Str) : Prop := PyData.strOk x = true ∧ x.length ≤ 40
theorem pys_str : ∀ g : List Str, D.pys (g.map D.str) = some (g.map PyData.str)
  | [] => by simp [D.pys]
  | x :: g => by rw [List.map_cons, D.pys, pys_str g, D.py]; rfl
theorem py_fo (g : List Str) : D.py (fo g) = some (gT g) := by rw [D.py, pys_str]; rfl
theorem can_str : ∀ {g : List Str}, (∀ x ∈ g, okT x) → PyData.canLayAll0 (g.map .str) = true
  | [], _ => by simp [PyData.canLayAll0]
  | x :: g, h => by
    rw [List.map_cons, PyData.canLayAll0, can_str fun y hy => h y (List.mem_cons_of_mem _ hy), PyData.canLay0, (h x List.mem_cons_self).1]; rfl
theorem depth_str : ∀ g : List Str, PyData.depthAll (g.map .str) = 0
  | [] => by simp [PyData.depthAll]
  | x :: g => by rw [List.map_cons, PyData.depthAll, depth_str g, PyData.depth]; rfl
theorem depth_gT (g : List Str) : (gT g).depth = 1 := by
  unfold gT; rw [PyData.depth, depth_str]
theorem shaped_str {x : Str} (h : okT x) : SeqAt.shaped (.str x) = true := by
  unfold SeqAt.shaped; rw [PyData.canLay0, h.1, PyData.depth]; rfl
theorem shaped_strs {g : List Str} (h : ∀ x ∈ g, okT x) : SeqAt.shaped (.list (g.map .str)) = true := by
  unfold SeqAt.shaped; rw [PyData.canLay0, can_str h, PyData.depth, depth_str]; rfl
theorem any_eqv {g : List Str} {x : Str} : ((g.map PyData.str).any fun z => PyData.eqv z (.str x)) = decide (x ∈ g) := by
  rw [List.any_map]
  induction g with
  | nil => simp
  | cons y g ih =>
    rw [List.any_cons, ih]
    show ((y == x) || _) = _
    by_cases h : y = x
    · subst h; simp
    · have h2 : ¬ x = y := fun e => h e.symm
      simp [h, h2]
theorem fIn_fo {x : Str} {g : List Str} (hx : okT x) (hg : ∀ y ∈ g, okT y) : fIn (.str x) (fo g) = some (decide (x ∈ g)) := by
  unfold fIn
  simp only [pys_str, D.py]
  rw [if_pos (by rw [shaped_str hx, shaped_strs hg]; rfl), any_eqv]
/-- a value whose repr is at hand -/
structure Shw (d : D) (p : PyData) (B : Nat) : Prop where
  py : D.py d = some p
  can : p.canLay0 = true
  dp : p.depth ≤ 3
  sh : p.showable = true
  nd : p.hasDict = false
  le : sz p ≤ B
theorem fNe_same (x : Str) : fNe (.str x) (.str x) = some false := by
  show some (!decide (x = x)) = _
  simp
end BM
set_option Elab.async false
set_option linter.all false
set_option maxRecDepth 100000
set_option maxHeartbeats 4000000
namespace BM
open PySem PySem.Spec PyProof.Rows L2
variable [Tb]
def isTxD : D → Bool
  | .str _ => true
  | _ => false
end BM
set_option Elab.async false
set_option linter.all false
set_option maxRecDepth 100000
set_option maxHeartbeats 4000000
namespace BM
open PySem PySem.Spec PyProof.Rows L2
variable [Tb]
/-- the items with their numbers -/
@[reducible] def enumD (l : List D) : List D := l.zipIdx.map fun p => .tup [.int (p.2 : Nat), p.1]
end BM
set_option Elab.async false
set_option linter.all false
set_option maxRecDepth 100000
set_option maxHeartbeats 4000000
namespace BM
open PySem PySem.Spec PyProof.Rows L2
end BM
set_option Elab.async false
set_option linter.all false
set_option maxRecDepth 100000
set_option maxHeartbeats 4000000
namespace BM
open PySem PySem.Spec PyProof.Rows L2
variable [Tb]
def mDct0 : M O := mpure (.dct [] [])
theorem reps_snoc (o : O) (y : V) : ∀ (os : List O) (vs : List V), os.length = vs.length → reps (os ++ [o]) (vs ++ [y]) = reps os vs ++ [.rep o y]
  | [], [], _ => rfl
  | a :: os, b :: vs, h => by
    show It.rep a b :: reps (os ++ [o]) (vs ++ [y]) = .rep a b :: (reps os vs ++ [.rep o y])
    rw [reps_snoc o y os vs (by simpa using h)]
  | [], _ :: _, h => by cases h
  | _ :: _, [], h => by cases h
theorem keyEq_key (a k : Key) : keyEq (keyD a) (keyD k) = decide (a = k) := by
  cases a with
  | inl a =>
    cases k with
    | inl k =>
      show (a == k) = _
      rw [Bool.eq_iff_iff]; simp
    | inr k => exact (decide_eq_false (fun z => nomatch z)).symm
  | inr a =>
    cases k with
    | inl k => exact (decide_eq_false (fun z => nomatch z)).symm
    | inr k =>
      show (a == k) = _
      rw [Bool.eq_iff_iff]; simp
theorem idx_val (k : Key) : ∀ kvs : List (Key × V), (∀ q, idxKey (keyD k) (kvs.map fun p => keyD p.1) = some q → valV kvs k = (kvs.map (·.2))[q]?) ∧ (idxKey (keyD k) (kvs.map fun p => keyD p.1) = none → valV kvs k = none)
  | [] => ⟨fun q h => (nomatch h), fun _ => rfl⟩
  | p :: r => by
    obtain ⟨ih1, ih2⟩ := idx_val k r
    have e : idxKey (keyD k) ((p :: r).map fun p => keyD p.1) = if keyEq (keyD p.1) (keyD k) = true then some 0 else match idxKey (keyD k) (r.map fun p => keyD p.1) with
      | some j => some (j + 1)
      | none => none := rfl
    rw [e, keyEq_key]
    by_cases h : p.1 = k
    · rw [if_pos (decide_eq_true h)]
      refine ⟨fun q hq => ?_, fun hq => by cases hq⟩
      have z := Option.some.inj hq
      subst z
      exact valV_pos h
    · rw [if_neg (by simpa using h), valV_neg h]
      cases z : idxKey (keyD k) (r.map fun p => keyD p.1) with
      | none => exact ⟨fun q hq => by simp at hq, fun _ => ih2 z⟩
      | some j =>
        refine ⟨fun q hq => ?_, fun hq => by simp at hq⟩
        have z2 : j + 1 = q := Option.some.inj hq
        subst z2
        exact ih1 j z
end BM
set_option Elab.async false
set_option linter.all false
set_option maxRecDepth 100000
set_option maxHeartbeats 4000000
namespace BM
open PySem PySem.Spec PyProof.Rows L2
variable [Tb]
def tChn (F F' : D → D → Option Bool) (ma mb mc : M O) : M Bool := fun s => match ma s with
  | some (oa, s1) => match mb s1 with
    | some (ob, s2) => match F oa.toD ob.toD with
      | some true => match mc s2 with
        | some (oc, s3) => match F' ob.toD oc.toD with
          | some k => some (k, s3)
          | none => none
        | none => none
      | some false => some (false, s2)
      | none => none
    | none => none
  | none => none
section
variable {Γ : Gm} {a b c : Expr} {ma mb mc : M O} {pos : Pos} {F F' : D → D → Option Bool}
theorem sdT_chain {op op' : CmpOp} (ha : Sd Γ a ma) (hb : Sd Γ b mb) (hc : Sd Γ c mc) (ho : OkB Γ (compareOp op) (bO (w2b F))) (ho' : OkB Γ (compareOp op') (bO (w2b F')))
    (hm : lastMarks [op, op'] [b, c] = false := by with_unfolding_all rfl) : SdT Γ (.Compare a [op, op'] [b, c] pos) (tChn F F' ma mb mc) := ⟨fun X ok env k env' hm' σ H T hr Q q => by
  unfold tChn at hm'
  split at hm'
  case h_2 => cases hm'
  rename_i oa s1 q1
  split at hm'
  case h_2 => cases hm'
  rename_i ob s2 q2
  refine ⟨tTest (tChain (WO X (compareOp op)) (WO X (compareOp op')) (WE X a) (WE X b) (WE X c)), pt_chain (op_best X _) (op_best X _) (pe_best X a) (pe_best X b) (pe_best X c) hm, ?_⟩
  refine ha.run X ok env oa s1 q1 σ H T hr _ fun va H1 r1 => ?_
  refine hb.run X ok s1 ob s2 q2 σ H1 _ r1.freeze _ fun vb H2 r2 => ?_
  obtain ⟨L, hE, hS⟩ := r2.freeze
  cases q3 : F oa.toD ob.toD with
  | none => simp only [q3] at hm'; cases hm'
  | some k1 =>
    refine ho X ok H2 _ va vb oa.toD ob.toD (.d (.bl k1)) hS ⟨.d oa.toD, List.mem_cons_of_mem _ List.mem_cons_self, rfl⟩ ⟨.d ob.toD, List.mem_cons_self, rfl⟩ (bO_some q3) _ fun v H3 h3 => ?_
    refine ⟨k1, h3.blv, ?_⟩
    have r3 : RS Γ.cfg.K H3 s2 σ (.rep (.d ob.toD) vb :: .rep (.d oa.toD) va :: T) := ⟨L, hE, h3.drop⟩
    cases k1 with
    | false =>
      simp only [q3] at hm'
      have e1 := Option.some.inj hm'
      injection e1 with e1 e2
      subst e1 e2
      rw [if_neg Bool.false_ne_true]
      exact ⟨false, rfl, q H3 r3.drop.drop⟩
    | true =>
      simp only [q3] at hm'
      rw [if_pos rfl]
      split at hm'
      case h_2 => cases hm'
      rename_i oc s3 q4
      cases q5 : F' ob.toD oc.toD with
      | none => simp only [q5] at hm'; cases hm'
      | some k2 =>
        simp only [q5] at hm'
        have e1 := Option.some.inj hm'
        injection e1 with e1 e2
        subst e1 e2
        refine hc.run X ok s2 oc s3 q4 σ H3 _ r3 _ fun vc H4 r4 => ?_
        obtain ⟨L4, hE4, hS4⟩ := r4.freeze
        refine ho' X ok H4 _ vb vc ob.toD oc.toD (.d (.bl k2)) hS4 ⟨.d ob.toD, List.mem_cons_of_mem _ List.mem_cons_self, rfl⟩ ⟨.d oc.toD, List.mem_cons_self, rfl⟩ (bO_some q5) _ fun v' H5 h5 => ?_
        exact ⟨k2, h5.blv, q H5 (RS.drop (RS.drop (RS.drop ⟨L4, hE4, h5.drop⟩)))⟩⟩
end
end BM
set_option Elab.async false
set_option linter.all false
set_option maxRecDepth 100000
set_option maxHeartbeats 4000000
namespace BM
open PySem PySem.Spec PyProof.Rows L2
end BM
set_option Elab.async false
set_option linter.all false
set_option maxRecDepth 100000
set_option maxHeartbeats 4000000
namespace BM
open PySem PySem.Spec PyProof.Rows L2
variable [Tb]
def onceK (k : D) : List D → Bool
  | [] => true
  | x :: r => if keyEq x k = true then r.all (fun y => !keyEq y k) else onceK k r
def mGetD (i : Nat) (k : Str) : M O := fun s => match s[i]? with
  | some (some (.dct ks os)) => (match idxKey (.str k) ks with
    | some j => (match os[j]? with
      | some (.d x) => some (.d x, s)
      | _ => none)
    | none => none)
  | _ => none
def sSetD (i : Nat) (k : Str) (me : M O) : M Fl := fun s => match me s with
  | some (y, s1) => (match s1[i]? with
    | some (some (.dct ks os)) => (match idxKey (.str k) ks with
      | some j => if onceK (.str k) ks = true ∧ os.length < sizeLine then some (.nx, s1.set i (some (.dct ks (os.set j y)))) else none
      | none => none)
    | _ => none)
  | none => none
/-- the part at k, itself a list -/
def kidD (k : Str) : Option (Option O) → Option (Nat × List D × List O × List O)
  | some (some (.dct ks os)) => (match idxKey (.str k) ks with
    | some j => (match os[j]? with
      | some (.lst cs) => some (j, ks, os, cs)
      | _ => none)
    | none => none)
  | _ => none
def tKidNeD (i : Nat) (k : Str) : M Bool := fun s => match kidD k s[i]? with
  | some (_, _, _, cs) => (match O.leafs cs with
    | some ds => if ds.all isInt = true then some (!cs.isEmpty, s) else none
    | none => none)
  | none => none
def mKidPopD (i : Nat) (k : Str) : M O := fun s => match kidD k s[i]? with
  | some (j, ks, os, cs) => (match cs.getLast? with
    | some y => some (y, s.set i (some (.dct ks (os.set j (.lst cs.dropLast)))))
    | none => none)
  | none => none
def mKidAppD (i : Nat) (k : Str) (me : M O) : M O := fun s => match kidD k s[i]? with
  | some (j, ks, os, cs) => (match me (s.set i none) with
    | some (y, s') => if cs.length < sizeLine ∧ i < s'.length then some (.d .non, s'.set i (some (.dct ks (os.set j (.lst (cs ++ [y])))))) else none
    | none => none)
  | none => none
def mDctS (ks : List Str) (ms : List (M O)) : M O := fun s => match mArgs ms s with
  | some (os, s') => some (.dct (ks.map D.str) os, s')
  | none => none
section
variable {K : PySem.W.Frag} {H : Hp} {L : List It}
theorem once_no (k : Key) : ∀ r : List (Key × V), ((r.map fun p => keyD p.1).all fun y => !keyEq y (keyD k)) = true → ∀ p ∈ r, ¬ p.1 = k
  | [], _, p, hp => by cases hp
  | q :: r, h, p, hp => by
    rw [List.map_cons, List.all_cons, Bool.and_eq_true] at h
    rcases List.mem_cons.mp hp with rfl | hp
    · have h1 := h.1
      rw [keyEq_key] at h1
      intro e
      rw [decide_eq_true e] at h1; cases h1
    · exact once_no k r h.2 p hp
theorem map_no (k : Key) (v : V) {r : List (Key × V)} (h : ∀ p ∈ r, ¬ p.1 = k) : r.map (fun kv => if kv.1 = k then (kv.1, v) else kv) = r := by
  refine (List.map_congr_left fun p hp => ?_).trans (List.map_id r)
  rw [if_neg (h p hp)]; rfl
theorem put_at (k : Key) (v : V) : ∀ (kvs : List (Key × V)) (j : Nat), idxKey (keyD k) (kvs.map fun p => keyD p.1) = some j → onceK (keyD k) (kvs.map fun p => keyD p.1) = true →
    (kvs.any fun kv => decide (kv.1 = k)) = true ∧ (kvs.map fun kv => if kv.1 = k then (kv.1, v) else kv).map (fun p => keyD p.1) = kvs.map (fun p => keyD p.1) ∧ (kvs.map fun kv => if kv.1 = k then (kv.1, v) else kv).map (·.2) = (kvs.map (·.2)).set j v
  | [], j, h, _ => by cases h
  | p :: r, j, h, h2 => by
    rw [List.map_cons, idxKey] at h
    rw [List.map_cons, onceK] at h2
    rw [keyEq_key] at h h2
    by_cases e : p.1 = k
    · rw [if_pos (decide_eq_true e)] at h h2
      have ej := Option.some.inj h
      subst ej
      rw [List.any_cons, decide_eq_true e]
      refine ⟨rfl, ?_, ?_⟩
      · rw [List.map_cons, if_pos e, map_no k v (once_no k r h2), List.map_cons, List.map_cons]
      · rw [List.map_cons, if_pos e, map_no k v (once_no k r h2), List.map_cons, List.map_cons, List.set_cons_zero]
    · have e0 : ¬ decide (p.1 = k) = true := by simp [e]
      rw [if_neg e0] at h h2
      cases q : idxKey (keyD k) (r.map fun p => keyD p.1) with
      | none => rw [q] at h; cases h
      | some j' =>
        rw [q] at h
        have ej := Option.some.inj h
        subst ej
        obtain ⟨i1, i2, i3⟩ := put_at k v r j' q h2
        have e1 : ¬ p.1 = k := e
        refine ⟨by rw [List.any_cons, i1, Bool.or_true], ?_, ?_⟩
        · rw [List.map_cons, if_neg e1, List.map_cons, List.map_cons, i2]
        · rw [List.map_cons, if_neg e1, List.map_cons, List.map_cons, i3, List.set_cons_succ]
theorem putK_at {k : Key} {v : V} {kvs : List (Key × V)} {j : Nat} (h : idxKey (keyD k) (kvs.map fun p => keyD p.1) = some j) (h2 : onceK (keyD k) (kvs.map fun p => keyD p.1) = true) :
    (putK kvs k v).map (fun p => keyD p.1) = kvs.map (fun p => keyD p.1) ∧ (putK kvs k v).map (·.2) = (kvs.map (·.2)).set j v := by
  obtain ⟨i1, i2, i3⟩ := put_at k v kvs j h h2
  unfold putK
  rw [if_pos i1]
  exact ⟨i2, i3⟩
/-- one part of an own dict taken out, to be put back changed -/
theorem St.kidD {ks : List D} {os : List O} {v : V} {j : Nat} {c : O} (h : St K H (.rep (.dct ks os) v :: L)) (hj : os[j]? = some c) :
    ∃ a kvs v1 C, v = .ref a ∧ ks = kvs.map (fun p => keyD p.1) ∧ H a = some (.dK kvs) ∧ (kvs.map (·.2))[j]? = some v1 ∧ St K H (.rep c v1 :: (C ++ L)) ∧ ∀ H' c' R, St K H' (.rep c' v1 :: (C ++ R)) → St K H' (.rep (.dct ks (os.set j c')) v :: R) := by
  obtain ⟨a, kvs, e1, ek, hl, h2⟩ := h.open_dct
  subst e1
  obtain ⟨v1, g1, g2, g3⟩ := reps_split hl hj
  refine ⟨a, kvs, v1, .raw a (.dK kvs) :: reps (os.eraseIdx j) ((kvs.map (·.2)).eraseIdx j), rfl, ek, h2.raw_at, g1, ?_, fun H' c' R h' => ?_⟩
  · refine h2.perm ?_
    refine ((g2.append_right L).cons _).trans ?_
    exact .swap _ _ _
  · rw [ek]
    refine St.close_dct (by rw [List.length_set]; exact hl) (h'.perm ?_)
    refine .trans ?_ (((g3 c').symm.append_right R).cons _)
    exact .swap _ _ _
theorem slot_dct {env : Env} {σ : L2.St} {T : List It} {i : Nat} {ks : List D} {os : List O} (r : RS K H env σ T) (h : env[i]? = some (some (.dct ks os))) : ∃ a kvs, σ[i]? = some (some (.ref a)) ∧ H a = some (.dK kvs) ∧ ks = kvs.map (fun p => keyD p.1) := by
  obtain ⟨v, h1, L, hE, hS⟩ := r.take h
  obtain ⟨a, kvs, e1, ek, hl, h2⟩ := St.open_dct hS
  subst e1
  exact ⟨a, kvs, h1, h2.raw_at, ek⟩
theorem kidD_some {k : Str} {y : Option (Option O)} {r : Nat × List D × List O × List O} (h : kidD k y = some r) : y = some (some (.dct r.2.1 r.2.2.1)) ∧ idxKey (.str k) r.2.1 = some r.1 ∧ r.2.2.1[r.1]? = some (.lst r.2.2.2) := by
  unfold kidD at h
  split at h
  · rename_i ks os
    split at h
    · rename_i j q1
      split at h
      · rename_i cs q2
        have e := Option.some.inj h
        subst e
        exact ⟨rfl, q1, q2⟩
      · cases h
    · cases h
  · cases h
theorem setD_rs {env : Env} {σ : L2.St} {T : List It} {ks : List D} {os : List O} {a : Addr} {k : Str} {j : Nat} {y : O} {w : V} (hj : idxKey (.str k) ks = some j) (ho : onceK (.str k) ks = true) (h : RS K H env σ (.rep (.dct ks os) (.ref a) :: .rep y w :: T)) :
    ∃ kvs, H a = some (.dK kvs) ∧ kvs.length = os.length ∧ RS K (upd H a (.dK (putK kvs (.inr k) w))) env σ (.rep (.dct ks (os.set j y)) (.ref a) :: T) := by
  obtain ⟨L, hE, hS⟩ := h
  obtain ⟨a', kvs, e1, ek, hl, h2⟩ := St.open_dct (L := .rep y w :: (T ++ L)) hS
  cases e1
  refine ⟨kvs, h2.raw_at, by rw [hl, List.length_map], L, hE, ?_⟩
  subst ek
  obtain ⟨p1, p2⟩ := putK_at (k := .inr k) (v := w) hj ho
  have jl : j < os.length := by
    have key : ∀ (l : List D) (q : Nat), idxKey (.str k) l = some q → q < l.length := by
      intro l
      induction l with
      | nil => intro q z; cases z
      | cons d l ih =>
        intro q z
        rw [idxKey] at z
        by_cases e : keyEq d (.str k) = true
        · rw [if_pos e] at z; cases z; simp
        · rw [if_neg e] at z
          cases q' : idxKey (.str k) l with
          | none => rw [q'] at z; cases z
          | some j' => rw [q'] at z; cases z; have := ih _ q'; simp; omega
    have := key _ _ hj
    rw [List.length_map] at this hl
    omega
  have h3 := h2.write (u' := .dK (putK kvs (.inr k) w))
  show St K _ (.rep (.dct _ (os.set j y)) (.ref a) :: (T ++ L))
  rw [← p1]
  refine St.close_dct (os := os.set j y) (kvs := putK kvs (.inr k) w) (by rw [p2, List.length_set, List.length_set, hl]) ?_
  rw [p2]
  obtain ⟨R, r1, r2⟩ := reps_set (o := y) (v := w) hl jl
  refine (fun z => St.perm (.cons _ (r1.symm.append_right _)) z) ?_
  refine St.sub (.cons₂ _ ?_) (h3.perm (.cons _ List.perm_middle))
  exact .cons₂ _ (r2.append_right _)
end
section
variable {Γ : Gm} {e : Expr} {p pos apos p1 p2 : Pos} {x : Str} {i : Nat}
theorem hu_dct {X : Cx} (ok : Γ.Ok X) : X.A.units + 1 < cLine := by have := ok.room.un; omega
/-- d["k"], a plain part -/
theorem sd_getD (i : Nat) {k : Str} {b : Expr} (hb : Sd Γ b (mC (.str k))) (hs : NoSl b := by exact fun _ _ => rfl) (hN : Γ.N[i]? = some x := by rfl) (hv : Γ.vis x = true := by kernel_rfl) (hd : (x == ("__debug__" : Str)) = false := by kernel_rfl) (hcd : (x == ("__classdict__" : Str)) = false := by kernel_rfl) :
    Sd Γ (.Subscript (.Name x p) b pos) (mGetD i k) := ⟨fun X ok env o env' hm σ H T hr Q q => by
  unfold mGetD at hm
  split at hm
  · rename_i ks os q0
    split at hm
    · rename_i j q1
      split at hm
      · rename_i y q2
        have e1 := Option.some.inj hm
        injection e1 with e1 e2
        subst e1 e2
        refine ⟨_, pe_dget (hu_dct ok) (pe_var (i := i) (by rw [ok.hN]; exact hN) (ok.vis hv) hd hcd) (pe_best X b) hs, ?_⟩
        obtain ⟨v, h1, r1⟩ := hr.take q0
        refine ⟨v, h1, ?_⟩
        refine hb.run X ok env (.d (.str k)) env rfl σ H T hr _ fun w H1 r2 => ?_
        have ew : w = .str k := by
          obtain ⟨L, _, hS⟩ := r2
          exact hS.strv
        subst ew
        obtain ⟨v', h1', L, hE, hS⟩ := r2.drop.take q0
        rw [h1] at h1'
        have e := Option.some.inj (Option.some.inj h1')
        subst e
        obtain ⟨a, kvs, v1, C, g1, g2, g3, g4, g5, g6⟩ := St.kidD hS q2
        subst g1
        have iv := (idx_val (.inr k) kvs).1 j (by rw [← g2]; exact q1)
        rw [g4] at iv
        refine ⟨a, v1, rfl, ?_, q v1 H1 ?_⟩
        · have z := DGet.k (k := Sum.inr k) g3
          rw [iv] at z
          exact z
        · have g7 := g5.dup
          have g8 := g6 H1 (.d y) (.rep (.d y) v1 :: (T ++ L)) (g7.perm (by
            refine .cons _ ?_
            exact List.perm_middle.symm))
          rw [show os.set j (.d y) = os by
            obtain ⟨z1, z2⟩ := List.getElem?_eq_some_iff.mp q2
            rw [← z2]; exact List.set_getElem_self z1] at g8
          have r3 : RS Γ.cfg.K H1 (env.set i none) σ (.rep (.dct ks os) (.ref a) :: .rep (.d y) v1 :: T) := ⟨L, hE, g8⟩
          have r4 := r3.putSame h1
          rw [List.set_set] at r4
          rw [show env.set i (some (.dct ks os)) = env by
            obtain ⟨z1, z2⟩ := List.getElem?_eq_some_iff.mp q0
            rw [← z2]; exact List.set_getElem_self z1] at r4
          exact r4
      · cases hm
    · cases hm
  · cases hm⟩
/-- d["k"] = e, a key that is there -/
theorem ss_setD {k : Str} {b : Expr} {me : M O} (i : Nat) (he : Sd Γ e me) (hb : Sd Γ b (mC (.str k))) (hN : Γ.N[i]? = some x := by rfl) (hv : Γ.vis x = true := by kernel_rfl)
    (hs : ∀ env : PySem.Env, env.scope.names = Γ.sc → swapsWith e (some (.Subscript (.Name x p) b p1)) pos.line env = pure false := by intro _ _; rfl)
    (hd : (x == ("__debug__" : Str)) = false := by kernel_rfl) (hcd : (x == ("__classdict__" : Str)) = false := by kernel_rfl) : Ss Γ (.Assign [.Subscript (.Name x p) b p1] e pos) (sSetD i k me) [] := ⟨fun X ok env fl env' hm σ H T hr D q => by
  unfold sSetD at hm
  split at hm
  · rename_i y s1 h1
    split at hm
    · rename_i ks os q0
      split at hm
      · rename_i j q1
        by_cases hz : onceK (.str k) ks = true ∧ os.length < sizeLine
        · rw [if_pos hz] at hm
          have e1 := Option.some.inj hm
          injection e1 with e1 e2
          subst e1 e2
          refine ⟨_, ps_dput (hu_dct ok) (pe_var (i := i) (by rw [ok.hN]; exact hN) (ok.vis hv) hd hcd) (pe_best X b) (pe_best X e) (hs X.env ok.hsc), ?_⟩
          refine he.run X ok env y s1 h1 σ H T hr _ fun w H1 r1 => ?_
          obtain ⟨a, kvs0, g1, g2, g3⟩ := slot_dct r1 q0
          refine ⟨.ref a, g1, ?_⟩
          refine hb.run X ok s1 (.d (.str k)) s1 rfl σ H1 _ r1 _ fun z H2 r2 => ?_
          have ez : z = .str k := by
            obtain ⟨L, _, hS⟩ := r2
            exact hS.strv
          subst ez
          obtain ⟨v', g4, r3⟩ := r2.drop.take q0
          rw [g1] at g4
          have e := Option.some.inj (Option.some.inj g4)
          subst e
          obtain ⟨kvs, f1, f2, f3⟩ := setD_rs q1 hz.1 r3
          refine ⟨a, _, rfl, DPut.k (k := .inr k) f1 (by rw [f2]; exact hz.2), q σ _ ?_ (Kp.refl _ _)⟩
          have f4 := f3.putSame g1
          rw [List.set_set] at f4
          exact f4
        · rw [if_neg hz] at hm; cases hm
      · cases hm
    · cases hm
  · cases hm⟩
/-- the reading of d["k"], its part a list at a1; what is held is opened -/
theorem kid_readD {X : Cx} (ok : Γ.Ok X) {k : Str} {b : Expr} (hb : Sd Γ b (mC (.str k))) (hs : NoSl b) (hN : Γ.N[i]? = some x) (hv : Γ.vis x = true) (hd : (x == ("__debug__" : Str)) = false) (hcd : (x == ("__classdict__" : Str)) = false)
    {env : Env} {j : Nat} {ks : List D} {os cs : List O} (hk : kidD k env[i]? = some (j, ks, os, cs)) {σ : L2.St} {H : Hp} {T : List It} (hr : RS Γ.cfg.K H env σ T) {Q : VK}
    (q : ∀ (a a1 : Addr) (C : List It) H1, σ[i]? = some (some (.ref a)) → RS Γ.cfg.K H1 (env.set i none) σ (.rep (.lst cs) (.ref a1) :: (C ++ T)) → (∀ H' c' R, St Γ.cfg.K H' (.rep c' (.ref a1) :: (C ++ R)) → St Γ.cfg.K H' (.rep (.dct ks (os.set j c')) (.ref a) :: R)) → Q (.ref a1) H1) :
    WE X (.Subscript (.Name x p) b pos) σ H Q := by
  obtain ⟨q0, q1, q2⟩ := kidD_some hk
  have q0 : env[i]? = some (some (.dct ks os)) := q0
  have q1 : idxKey (.str k) ks = some j := q1
  have q2 : os[j]? = some (.lst cs) := q2
  refine ⟨_, pe_dget (hu_dct ok) (pe_var (i := i) (by rw [ok.hN]; exact hN) (ok.vis hv) hd hcd) (pe_best X b) hs, ?_⟩
  obtain ⟨v, h1, r1⟩ := hr.take q0
  refine ⟨v, h1, ?_⟩
  refine hb.run X ok env (.d (.str k)) env rfl σ H T hr _ fun w H1 r2 => ?_
  have ew : w = .str k := by
    obtain ⟨L, _, hS⟩ := r2
    exact hS.strv
  subst ew
  obtain ⟨v', h1', L, hE, hS⟩ := r2.drop.take q0
  rw [h1] at h1'
  have e := Option.some.inj (Option.some.inj h1')
  subst e
  obtain ⟨a, kvs, v1, C, g1, g2, g3, g4, g5, g6⟩ := St.kidD (L := T ++ L) hS q2
  subst g1
  obtain ⟨a1, ws, e1, hl, h2⟩ := g5.open_lst
  subst e1
  have iv := (idx_val (.inr k) kvs).1 j (by rw [← g2]; exact q1)
  rw [g4] at iv
  refine ⟨a, .ref a1, rfl, ?_, q a a1 C H1 h1 ⟨L, hE, by
    show St Γ.cfg.K H1 (.rep (.lst cs) (.ref a1) :: (C ++ T ++ L))
    rw [List.append_assoc]; exact g5⟩ fun H' c' R h' => g6 H' c' R h'⟩
  have z := DGet.k (k := Sum.inr k) g3
  rw [iv] at z
  exact z
theorem kid_backD {K : PySem.W.Frag} {H : Hp} {env : Env} {σ : L2.St} {T C : List It} {a a1 : Addr} {o : O → O} {c' : O} (h : RS K H env σ (.rep c' (.ref a1) :: (C ++ T))) (g : ∀ H' c' R, St K H' (.rep c' (.ref a1) :: (C ++ R)) → St K H' (.rep (o c') (.ref a) :: R))
    (hs : σ[i]? = some (some (.ref a))) : RS K H (env.set i (some (o c'))) σ T := by
  have r : RS K H env σ (.rep (o c') (.ref a) :: T) := h.lift fun L hS => g H c' (T ++ L) (by
    have z : St K H (.rep c' (.ref a1) :: (C ++ T ++ L)) := hS
    rw [List.append_assoc] at z
    exact z)
  exact r.putSame hs
theorem sd_kidPopD (i : Nat) {k : Str} {b : Expr} (hb : Sd Γ b (mC (.str k))) (hs : NoSl b := by exact fun _ _ => rfl) (hN : Γ.N[i]? = some x := by rfl) (hv : Γ.vis x = true := by kernel_rfl)
    (hbase : ∀ env : PySem.Env, attributeBase (.Subscript (.Name x p) b p1) "pop" env (eval (.Subscript (.Name x p) b p1) env) = eval (.Subscript (.Name x p) b p1) env := by intro _; rfl) (hline : (apos.endLine == pos.line) = true := by rfl)
    (hd : (x == ("__debug__" : Str)) = false := by kernel_rfl) (hcd : (x == ("__classdict__" : Str)) = false := by kernel_rfl) : Sd Γ (.Call (.Attribute (.Subscript (.Name x p) b p1) "pop" apos) [] [] pos) (mKidPopD i k) := ⟨fun X ok env o env' hm σ H T hr Q q => by
  unfold mKidPopD at hm
  split at hm
  · rename_i j ks os cs q0
    split at hm
    · rename_i y q1
      have e1 := Option.some.inj hm
      injection e1 with e1 e2
      subst e1 e2
      refine ⟨_, pe_bm0 (T := "list") PySem.F.plainAttrs_list PySem.F.slot_list_pop PySem.F.type_list_pop (mt_pop (X := X)) (pe_best X _) (hbase X.env) hline, ?_⟩
      refine kid_readD ok hb hs hN hv hd hcd q0 hr fun a a1 C H1 h1 r1 g => ?_
      obtain ⟨acc, w, f1, f2, f3, f4⟩ := pop_rs (getLast_get q1) r1
      rw [← f2, last_erase] at f4
      rw [f2, last_erase] at f4
      rw [← f2] at f3
      refine ⟨ty_list f1, a1, acc, w, rfl, rfl, f1, f3, q w _ ?_⟩
      have f5 := kid_backD (i := i) (T := .rep y w :: T) (o := fun c => .dct ks (os.set j c)) (f4.perm (by
        refine (List.Perm.swap _ _ _).trans (.cons _ ?_)
        exact List.perm_middle.symm)) g h1
      rw [List.set_set] at f5
      exact f5
    · cases hm
  · cases hm⟩
theorem sd_kidAppD (i : Nat) {k : Str} {b : Expr} {me : M O} (hb : Sd Γ b (mC (.str k))) (he : Sd Γ e me) (hns : ∀ env : PySem.Env, starEach [e] env = (false, eval e env) :: starEach [] env := by intro _; rfl) (hs : NoSl b := by exact fun _ _ => rfl) (hN : Γ.N[i]? = some x := by rfl) (hv : Γ.vis x = true := by kernel_rfl)
    (hbase : ∀ env : PySem.Env, attributeBase (.Subscript (.Name x p) b p1) "append" env (eval (.Subscript (.Name x p) b p1) env) = eval (.Subscript (.Name x p) b p1) env := by intro _; rfl)
    (hfew : ∀ env : PySem.Env, ((backTo pos (starEach [e] env)).all (fun x => !x.1) && (backToKw pos (keywordEach [] env)).all (fun x => x.1.isSome) && decide ([e].length + ([] : List Keyword).length + (if ([] : List Keyword).isEmpty then 0 else 1) < 30)) = true := by intro _; rfl)
    (hline : (apos.endLine == pos.line) = true := by rfl)
    (hd : (x == ("__debug__" : Str)) = false := by kernel_rfl) (hcd : (x == ("__classdict__" : Str)) = false := by kernel_rfl) : Sd Γ (.Call (.Attribute (.Subscript (.Name x p) b p1) "append" apos) [e] [] pos) (mKidAppD i k me) := ⟨fun X ok env o env' hm σ H T hr Q q => by
  unfold mKidAppD at hm
  split at hm
  · rename_i j ks os cs q0
    split at hm
    · rename_i y s' q1
      by_cases hl : cs.length < sizeLine ∧ i < s'.length
      · rw [if_pos hl] at hm
        have e1 := Option.some.inj hm
        injection e1 with e1 e2
        subst e1 e2
        have hn : NoStars [e] := ns_cons ns_nil hns
        refine ⟨_, pe_bm (T := "list") PySem.F.plainAttrs_list PySem.F.slot_list_append PySem.F.type_list_append (mt_append (X := X)) (pe_best X _) (pa_of hn) (hbase X.env) (hfew X.env) hline (hns X.env) (backTo_plain ns_nil), ?_⟩
        refine kid_readD ok hb hs hN hv hd hcd q0 hr fun a a1 C H1 h1 r1 g => ?_
        have hty : ∃ xs, H1 a1 = some (.lst xs) := by
          obtain ⟨L, _, hS⟩ := r1
          obtain ⟨a', ws, e1, _, h2⟩ := St.open_lst hS
          cases e1
          exact ⟨ws, h2.raw_at⟩
        obtain ⟨xs, hty⟩ := hty
        refine ⟨ty_list hty, ?_⟩
        refine he.run X ok _ y s' q1 σ H1 _ r1 _ fun w H2 r2 => ?_
        obtain ⟨acc, f1, f2, f3⟩ := append_rs r2
        refine ⟨a1, acc, w, rfl, rfl, f1, by rw [f2]; exact hl.1, q .non _ ?_⟩
        have f5 := kid_backD (i := i) (o := fun c => .dct ks (os.set j c)) f3 g h1
        exact f5.lift fun L h => h.flat rfl
      · rw [if_neg hl] at hm; cases hm
    · cases hm
  · cases hm⟩
theorem sdT_kidNeD (i : Nat) {k : Str} {b : Expr} {p2 : Pos} (hb : Sd Γ b (mC (.str k))) (hs : NoSl b := by exact fun _ _ => rfl) (hN : Γ.N[i]? = some x := by rfl) (hv : Γ.vis x = true := by kernel_rfl) (hd : (x == ("__debug__" : Str)) = false := by kernel_rfl) (hcd : (x == ("__classdict__" : Str)) = false := by kernel_rfl)
    (hm : behindInMarks .NotEq (.List [] p2) = false := by first | exact nomark _ | rfl) :
    SdT Γ (.Compare (.Subscript (.Name x p) b p1) [.NotEq] [.List [] p2] pos) (tKidNeD i k) := ⟨fun X ok env o env' hm' σ H T hr Q q => by
  unfold tKidNeD at hm'
  split at hm'
  · rename_i j ks os cs q0
    split at hm'
    · rename_i ds q1
      by_cases hds : ds.all isInt = true
      · rw [if_pos hds] at hm'
        have e1 := Option.some.inj hm'
        injection e1 with e1 e2
        subst e1 e2
        refine ⟨_, pt_cmpR (op_neD ok.room.units) (pe_best X _) (pe_lst pa_nil) hm, ?_⟩
        refine kid_readD ok hb hs hN hv hd hcd q0 hr fun a a1 C H1 h1 r1 g => ?_
        have hEl := leafs_eq q1
        subst hEl
        refine ⟨Nat.zero_le _, fun l hl => ?_⟩
        obtain ⟨L, hE, hS⟩ := id r1
        have hA := St.alloc (u := .lst []) hl hS
        have hS1 : St Γ.cfg.K (upd H1 l (.lst [])) (.rep (.lst (leaf ds)) (.ref a1) :: (C ++ T ++ L)) := hA.drop
        have rep := Look.rep hS1 (d := .lst ds) (v := .ref a1) ⟨.lst (leaf ds), List.mem_cons_self, by
          show (match O.leafs (leaf ds) with | some l => some (D.lst l) | none => none) = some (D.lst ds)
          rw [leafs_leaf]⟩
        obtain ⟨ps, f1, f2, f3, f4⟩ := pys_ints hds
        have dp := rep_dp rep (p := .list ps) (by rw [D.py, f1])
        refine ⟨.list ps, .list [], by rw [ok.hK]; exact dp, .lst (SqL.of hA.raw_at) .nil, ?_, rfl, !(leaf ds).isEmpty, ?_, q _ ?_⟩
        · show (PyData.canLay0 (.list ps) && decide (PyData.depth (.list ps) ≤ 64)) = true
          rw [PyData.canLay0, PyData.depth, f3, f4]; rfl
        · have e : PyData.eqv (.list ps) (.list []) = (leaf ds).isEmpty := by
            cases ds with
            | nil =>
              cases ps with
              | nil => rfl
              | cons => cases f2
            | cons d ds =>
              cases ps with
              | nil => cases f2
              | cons => rfl
          rw [e]
        · have r2 := kid_backD (i := i) (env := env.set i none) (o := fun c => .dct ks (os.set j c)) ⟨L, hE, hS1⟩ (fun H' c' R h' => g H' c' R h') h1
          rw [List.set_set] at r2
          obtain ⟨z1, z2, z3⟩ := kidD_some q0
          have z1 : env[i]? = some (some (.dct ks os)) := z1
          have z3 : os[j]? = some (.lst (leaf ds)) := z3
          rw [show os.set j (.lst (leaf ds)) = os by
            obtain ⟨y1, y2⟩ := List.getElem?_eq_some_iff.mp z3
            rw [← y2]; exact List.set_getElem_self y1] at r2
          rw [show env.set i (some (.dct ks os)) = env by
            obtain ⟨y1, y2⟩ := List.getElem?_eq_some_iff.mp z1
            rw [← y2]; exact List.set_getElem_self y1] at r2
          exact r2
      · rw [if_neg hds] at hm'; cases hm'
    · cases hm'
  · cases hm'⟩
end
/-- the pairs of a display, their keys texts -/
structure Spr (Γ : Gm) (kes : List (Option Expr)) (ves : List Expr) (ks : List Str) (ms : List (M O)) : Prop where
  len : kes.length = ves.length ∧ ks.length = ves.length ∧ kes.all (·.isSome) = true
  run : ∀ X, Γ.Ok X → ∀ pos, ∃ trs, PPs X pos kes ves trs ∧ ∀ env os env', mArgs ms env = some (os, env') → ∀ σ H T, RS Γ.cfg.K H env σ T → ∀ Q : List (V × V) → Hp → Prop,
    (∀ vs H', os.length = vs.length → ks.length = vs.length → RS Γ.cfg.K H' env' σ (reps os vs ++ T) → Q ((ks.map V.str).zip vs) H') → tPairs trs σ H Q
section
variable {Γ : Gm} {k v : Expr} {kes : List (Option Expr)} {ves : List Expr} {ks : List Str} {ms : List (M O)} {pos : Pos}
theorem spr_nil : Spr Γ [] [] [] [] := ⟨⟨rfl, rfl, rfl⟩, fun X ok pos => ⟨[], pps_nil, fun env os env' hm σ H T hr Q q => by
  have e1 := Option.some.inj (show some (([] : List O), env) = some (os, env') from hm)
  injection e1 with e1 e2
  subst e1 e2
  exact q [] H rfl rfl hr⟩⟩
theorem spr_cons {c : Str} {m : M O} (hk : Sd Γ k (mC (.str c))) (hv : Sd Γ v m) (hs : Spr Γ kes ves ks ms) : Spr Γ (some k :: kes) (v :: ves) (c :: ks) (m :: ms) := by
  obtain ⟨⟨l1, l2, l3⟩, hr⟩ := hs
  refine ⟨⟨by simp [l1], by simp [l2], by simpa using l3⟩, fun X ok pos => ?_⟩
  obtain ⟨trs, h1, h2⟩ := hr X ok pos
  refine ⟨_, pps_cons (pe_best X k) (pe_best X v) h1, fun env os env' hm σ H T hr Q q => ?_⟩
  obtain ⟨o, s1, g1, g2⟩ := mbind_some (show mbind m (fun a => mbind (mArgs ms) fun l => mpure (a :: l)) env = _ from hm)
  obtain ⟨l, s2, g3, g4⟩ := mbind_some g2
  have e1 := Option.some.inj (show some (o :: l, s2) = some (os, env') from g4)
  injection e1 with e1 e2
  subst e1 e2
  refine hk.run X ok env (.d (.str c)) env rfl σ H T hr _ fun z H1 r1 => ?_
  have ez : z = .str c := by
    obtain ⟨L, _, hS⟩ := r1
    exact hS.strv
  subst ez
  refine hv.run X ok env o s1 g1 σ H1 T r1.drop _ fun w H2 r2 => ?_
  refine h2 s1 l s2 g3 σ H2 (.rep o w :: T) r2 _ fun vs H3 e1 e2 r3 => ?_
  exact q (w :: vs) H3 (by simp [e1]) (by simp [e2]) (r3.perm List.perm_middle)
def ndS : List Str → Bool
  | [] => true
  | x :: r => (r.all fun y => decide (x ≠ y)) && ndS r
theorem merge_nd : ∀ (more acc : List (Key × V)), (∀ p ∈ more, valV acc p.1 = none) → (more.map (·.1)).Nodup → mergeK acc more = acc ++ more
  | [], acc, _, _ => by simp [mergeK]
  | p :: r, acc, h, nd => by
    have h1 := putK_new p.2 (h p List.mem_cons_self)
    show mergeK (putK acc p.1 p.2) r = _
    rw [h1, merge_nd r _ (fun q hq => ?_) (by rw [List.map_cons] at nd; exact (List.nodup_cons.mp nd).2), List.append_assoc]
    · rfl
    · rw [valV_snoc _ _ _ _ (h p List.mem_cons_self), if_neg]
      · exact h q (List.mem_cons_of_mem _ hq)
      · intro e
        rw [List.map_cons] at nd
        exact (List.nodup_cons.mp nd).1 (e ▸ List.mem_map_of_mem hq)
theorem nd_keys : ∀ {ks : List Str}, ndS ks = true → (ks.map (Sum.inr : Str → Key)).Nodup
  | [], _ => .nil
  | x :: r, h => by
    rw [ndS, Bool.and_eq_true] at h
    rw [List.map_cons]
    refine List.nodup_cons.mpr ⟨fun hx => ?_, nd_keys h.2⟩
    obtain ⟨y, hy, e⟩ := List.mem_map.mp hx
    have e := Sum.inr.inj e
    have := List.all_eq_true.mp h.1 y hy
    simp [e] at this
theorem sd_dctS (h : Spr Γ kes ves ks ms) (h0 : kes ≠ [] := by exact fun z => nomatch z) (h15 : kes.length ≤ 15 := by decide) (hn : ndS ks = true := by decide +kernel) : Sd Γ (.Dict kes ves pos) (mDctS ks ms) := ⟨fun X ok env o env' hm σ H T hr Q q => by
  unfold mDctS at hm
  split at hm
  · rename_i os s' h1
    have e1 := Option.some.inj hm
    injection e1 with e1 e2
    subst e1 e2
    obtain ⟨trs, g1, g2⟩ := h.run X ok pos
    refine ⟨_, pe_disp g1 h.len.2.2 h.len.1 h0 h15, fun p hp => ?_⟩
    have r0 : RS Γ.cfg.K (upd H p (.dK [])) env σ (.raw p (.dK []) :: T) := hr.lift fun L hS => St.alloc hp hS
    refine g2 env os s' h1 σ _ _ r0 _ fun vs H' e1 e2 r1 => ?_
    have r2 := r1.perm (List.perm_middle (a := It.raw p (.dK [])))
    obtain ⟨L, hE, hS⟩ := r2
    have ra : H' p = some (.dK []) := St.raw_at (L := (reps os vs ++ T) ++ L) hS
    have lz : ((ks.map (Sum.inr : Str → Key)).zip vs).length = vs.length := by rw [List.length_zip, List.length_map, e2, Nat.min_self]
    have f1 : ((ks.map (Sum.inr : Str → Key)).zip vs).map (·.1) = ks.map Sum.inr := List.map_fst_zip (by rw [List.length_map, e2]; exact Nat.le_refl _)
    have f2 : ((ks.map (Sum.inr : Str → Key)).zip vs).map (·.2) = vs := List.map_snd_zip (by rw [List.length_map, e2]; exact Nat.le_refl _)
    have ev : (ks.map V.str).zip vs = ((ks.map (Sum.inr : Str → Key)).zip vs).map fun kv => (kV kv.1, kv.2) := by
      rw [List.zip_map_left, List.zip_map_left, List.map_map]; rfl
    have mg : mergeK [] ((ks.map (Sum.inr : Str → Key)).zip vs) = (ks.map (Sum.inr : Str → Key)).zip vs := by
      rw [merge_nd _ _ (fun _ _ => rfl) (by rw [f1]; exact nd_keys hn)]; rfl
    refine ⟨ra, (ks.map (Sum.inr : Str → Key)).zip vs, ev, ?_, ?_⟩
    · rw [lz, ← e2, h.len.2.1, ← h.len.1]; exact h15
    · rw [mg]
      refine q _ _ ⟨L, hE, ?_⟩
      have w := St.write (u' := .dK ((ks.map (Sum.inr : Str → Key)).zip vs)) (L := (reps os vs ++ T) ++ L) hS
      have ek : ks.map D.str = ((ks.map (Sum.inr : Str → Key)).zip vs).map fun p => keyD p.1 := by
        have z := congrArg (List.map keyD) f1
        rw [List.map_map, List.map_map] at z
        exact z.symm
      rw [ek]
      refine St.close_dct (L := T ++ L) (by rw [f2]; exact e1) ?_
      rw [f2]
      rw [List.append_assoc] at w
      exact w
  · cases hm⟩
end
end BM
set_option Elab.async false
set_option linter.all false
set_option maxRecDepth 100000
set_option maxHeartbeats 4000000
namespace PySem
open Sem (wp)
open AutoSeq1 (wpAny_loadPart')
end PySem
namespace BM
open PySem PySem.Spec PyProof.Rows L2
variable [Tb]
def iRv (m : M O) : M (List D) := fun s => match m s with
  | some (o, s') => match listOfD o.toD with
    | some l => some (l.reverse, s')
    | none => none
  | none => none
section
variable {Γ : Gm} {e tg : Expr} {m : M O} {p pos tpos : Pos} {elts : List Expr} {kk : Nat}
theorem si_rev (h : Sd Γ e m) (hg : Γ.glo "reversed" = true) (hmg : Γ.cfg.mg "reversed" = none) (hs : ∀ env : PySem.Env, starEach [e] env = (false, eval e env) :: starEach [] env := by intro _; rfl) :
    Si Γ tg (.Call (.Name "reversed" p) [e] [] pos) (iRv m) := ⟨fun X ok env ds env' hm σ H T hr R q => by
  unfold iRv at hm
  split at hm
  · rename_i o s1 q1
    split at hm
    · rename_i l q2
      have e1 := Option.some.inj hm
      injection e1 with e1 e2
      subst e1 e2
      refine ⟨_, RT.pi_revA (ok.glo hg) (by rw [ok.hmg]; exact hmg) (pe_best X e) (hs X.env), ?_⟩
      refine h.run X ok env o s1 q1 σ H T hr _ fun v H1 r1 => ?_
      have r1 := r1.freeze
      cases q3 : o.toD with
      | lst l' =>
        rw [q3] at r1 q2
        have e1 := Option.some.inj q2
        subst e1
        obtain ⟨a, vs, e1, h1, hl⟩ : ∃ a vs, v = .ref a ∧ SqL Γ.cfg.K H1 a vs ∧ l'.length = vs.length := by
          obtain ⟨L, _, hS⟩ := r1
          obtain ⟨a, vs, e1, h1, h2, _⟩ := hS.read_lst
          exact ⟨a, vs, e1, h1, h2⟩
        subst e1
        refine ⟨a, vs, rfl, .inl ⟨by rw [ok.hK]; exact h1, ?_⟩⟩
        refine q _ H1 [.rep (.d (.lst l')) (.ref a)] ⟨fun i H2 L hi hS => ?_, fun H2 L hS => ?_, fun i H2 L x H' hi hS hy => ?_⟩ r1
        · obtain ⟨a', ws, e1, g1, g2, g3⟩ := St.read_lst (L := L) hS
          cases e1
          rw [List.length_reverse] at hi
          rw [ok.hK]
          refine ⟨by omega, ws, ws[vs.length - 1 - i]'(by omega), g1, List.getElem?_eq_getElem _⟩
        · show vs.length ≤ l'.reverse.length
          rw [List.length_reverse]; omega
        · obtain ⟨a', ws, e1, g1, g2, g3⟩ := St.read_lst (L := L) hS
          cases e1
          rw [ok.hK] at hy
          obtain ⟨rfl, y2⟩ := hy
          have hi' : i < l'.length := by rw [List.length_reverse] at hi; exact hi
          have s2 := reps_pick (i := vs.length - 1 - i) g2 g3 (by omega) (y2 ws g1)
          rw [List.getElem_reverse]
          have ei : l'.length - 1 - i = vs.length - 1 - i := by omega
          simp only [ei]
          exact s2
      | tup l' =>
        rw [q3] at r1 q2
        have e1 := Option.some.inj q2
        subst e1
        obtain ⟨a, vs, e1, h1, hl⟩ : ∃ a vs, v = .ref a ∧ SqT Γ.cfg.K H1 a vs ∧ l'.length = vs.length := by
          obtain ⟨L, _, hS⟩ := r1
          obtain ⟨a, vs, e1, h1, h2, _⟩ := hS.read_tup
          exact ⟨a, vs, e1, h1, h2⟩
        subst e1
        refine ⟨a, vs, rfl, .inr ⟨by rw [ok.hK]; exact h1, ?_⟩⟩
        refine q _ H1 [.rep (.d (.tup l')) (.ref a)] ⟨fun i H2 L hi hS => ?_, fun H2 L hS => ?_, fun i H2 L x H' hi hS hy => ?_⟩ r1
        · obtain ⟨a', ws, e1, g1, g2, g3⟩ := St.read_tup (L := L) hS
          cases e1
          rw [List.length_reverse] at hi
          rw [ok.hK]
          refine ⟨by omega, ws, ws[vs.length - 1 - i]'(by omega), g1, List.getElem?_eq_getElem _⟩
        · show vs.length ≤ l'.reverse.length
          rw [List.length_reverse]; omega
        · obtain ⟨a', ws, e1, g1, g2, g3⟩ := St.read_tup (L := L) hS
          cases e1
          rw [ok.hK] at hy
          obtain ⟨rfl, y2⟩ := hy
          have hi' : i < l'.length := by rw [List.length_reverse] at hi; exact hi
          have s2 := reps_pick (i := vs.length - 1 - i) g2 g3 (by omega) (y2 ws g1)
          rw [List.getElem_reverse]
          have ei : l'.length - 1 - i = vs.length - 1 - i := by omega
          simp only [ei]
          exact s2
      | non => rw [q3] at q2; cases q2
      | bl _ => rw [q3] at q2; cases q2
      | int _ => rw [q3] at q2; cases q2
      | str _ => rw [q3] at q2; cases q2
      | dct _ => rw [q3] at q2; cases q2
      | obj _ _ _ => rw [q3] at q2; cases q2
    · cases hm
  · cases hm⟩
end
end BM
set_option Elab.async false
set_option linter.all false
set_option maxRecDepth 100000
set_option maxHeartbeats 4000000
namespace BM
open PySem PySem.Spec PyProof.Rows L2
variable [Tb]
def mFld (C : Addr) (f : Str) (m : M O) : M O := fun s => match m s with
  | some (o, s1) => (match o.toD with
    | .obj C' ns xs => if C' = C then (match (ns.zip xs).lookup f with
      | some d => some (.d d, s1)
      | none => none) else none
    | _ => none)
  | none => none
def sFldP (i : Nat) (C : Addr) (f : Str) (me : M O) : M Fl := fun s => match me s with
  | some (y, s1) => (match s1[i]? with
    | some (some (.obj C' ns os)) => if C' = C ∧ f ∉ ns ∧ ns.length = os.length ∧ ns.length < 1000 then some (.nx, s1.set i (some (.obj C' (ns ++ [f]) (os ++ [y])))) else none
    | _ => none)
  | none => none
/-- an instance of C whose own fields do not hide m -/
def mObj (C : Addr) (f : Str) (m : M O) : M O := fun s => match m s with
  | some (o, s1) => (match o.toD with
    | .obj C' ns xs => if C' = C ∧ f ∉ ns then some (.d (.obj C' ns xs), s1) else none
    | _ => none)
  | none => none
def mMake (C : Addr) (f : List O → Option (O × List O)) (ms : List (M Ar)) : M O := mbind (mars ms) fun ars => mbind (takeArs ars) fun os => fun s => match f (.obj C [] [] :: os) with
  | some (.d .non, o :: outs) => (match giveArs ars outs s with
    | some (_, s') => some (o, s')
    | none => none)
  | _ => none
section
variable {K : PySem.W.Frag} {H : Hp} {L : List It}
theorem St.read_obj {C : Addr} {ns : List Str} {ds : List D} {v : V} (h : St K H (.rep (.d (.obj C ns ds)) v :: L)) : ∃ a dx vs, v = .ref a ∧ H a = some (.ins C dx (ns.zip vs)) ∧ ns.length = vs.length ∧ ds.length = vs.length ∧ St K H (reps (leaf ds) vs ++ (.rep (.d (.obj C ns ds)) v :: L)) := by
  obtain ⟨G, fp, s, ⟨f1, f2, e, h2, h3⟩, nd, hg⟩ := h
  have h2' : Own K G H (.d (.obj C ns ds)) v f1 := h2
  have h2s := h2'
  rw [Own, Rep] at h2'
  obtain ⟨e1, a, dx, vs, h4, h5, h5', h6, h7⟩ := h2'
  subst e1 e
  exact ⟨a, dx, vs, h4, s _ _ h5, h6, h7.length, G, _, s, Sep.appT (leaf_reps h7) ⟨[], _, rfl, h2s, h3⟩, nd, hg⟩
theorem St.open_obj {C : Addr} {ns : List Str} {os : List O} {v : V} (h : St K H (.rep (.obj C ns os) v :: L)) : ∃ a dx vs, v = .ref a ∧ ns.length = vs.length ∧ os.length = vs.length ∧ St K H (.raw a (.ins C dx (ns.zip vs)) :: .raw dx (.own a) :: (reps os vs ++ L)) := by
  obtain ⟨G, fp, s, ⟨f1, f2, e, h2, h3⟩, nd, hg⟩ := h
  have h2' : Own K G H (.obj C ns os) v f1 := h2
  rw [Own] at h2'
  obtain ⟨a, dx, vs, fq, h1, e2, h4, h5, h6, h7⟩ := h2'
  subst e2 e
  exact ⟨a, dx, vs, h1, h6, Owns.length h7, G, _, s, ⟨[a], dx :: (fq ++ f2), rfl, ⟨rfl, h4⟩, [dx], fq ++ f2, rfl, ⟨rfl, h5⟩, Sep.appT (sep_reps h7) h3⟩, nd, hg⟩
theorem St.close_obj {C a dx : Addr} {ns : List Str} {os : List O} {vs : List V} (hn : ns.length = vs.length) (hl : os.length = vs.length) (h : St K H (.raw a (.ins C dx (ns.zip vs)) :: .raw dx (.own a) :: (reps os vs ++ L))) : St K H (.rep (.obj C ns os) (.ref a) :: L) := by
  obtain ⟨G, fp, s, ⟨f1, f2, e, ⟨e1, h2⟩, f3, f4, e3, ⟨e4, h4⟩, h5⟩, nd, hg⟩ := h
  obtain ⟨g1, g2, e2, q1, q2⟩ := Sep.splitT h5
  subst e1 e4 e2 e3 e
  refine ⟨G, _, s, ⟨a :: dx :: g1, g2, rfl, ?_, q2⟩, nd, hg⟩
  show Own K G H (.obj C ns os) (.ref a) (a :: dx :: g1)
  rw [Own]
  exact ⟨a, dx, vs, g1, rfl, rfl, h2, h4, hn, owns_reps hl q1⟩
theorem lookup_zip {f : Str} : ∀ {ns : List Str} {ds : List D} {vs : List V} {d : D}, ns.length = vs.length → ds.length = vs.length → (ns.zip ds).lookup f = some d → ∃ v, (ns.zip vs).lookup f = some v ∧ .rep (.d d) v ∈ reps (leaf ds) vs
  | n :: ns, x :: ds, v :: vs, d, h1, h2, h => by
    rw [List.zip_cons_cons, List.lookup_cons] at h
    rw [List.zip_cons_cons, List.lookup_cons]
    by_cases e : (f == n) = true
    · simp only [e] at h ⊢
      have e' := Option.some.inj h
      subst e'
      exact ⟨v, rfl, List.mem_cons_self⟩
    · have e : (f == n) = false := by simpa using e
      simp only [e] at h ⊢
      obtain ⟨w, g1, g2⟩ := lookup_zip (by simpa using h1) (by simpa using h2) h
      exact ⟨w, g1, List.mem_cons_of_mem _ g2⟩
  | [], _, _, d, _, _, h => by simp at h
  | _ :: _, [], _, d, _, _, h => by simp at h
  | _ :: _, _ :: _, [], d, h1, _, _ => by cases h1
theorem lookup_no {f : Str} : ∀ {ns : List Str} {vs : List V}, f ∉ ns → (ns.zip vs).lookup f = none
  | [], _, _ => by simp
  | _ :: _, [], _ => by simp
  | n :: ns, v :: vs, h => by
    rw [List.zip_cons_cons, List.lookup_cons]
    have e : (f == n) = false := beq_eq_false_iff_ne.mpr fun z => h (z ▸ List.mem_cons_self)
    simp only [e]
    exact lookup_no fun z => h (List.mem_cons_of_mem _ z)
theorem putF_new {f : Str} {y : V} : ∀ {ns : List Str} {vs : List V}, f ∉ ns → ns.length = vs.length → putF f y (ns.zip vs) = (ns ++ [f]).zip (vs ++ [y])
  | [], [], _, _ => rfl
  | [], _ :: _, _, h => by cases h
  | _ :: _, [], _, h => by cases h
  | n :: ns, v :: vs, h, hl => by
    show (if n = f then (n, y) :: ns.zip vs else (n, v) :: putF f y (ns.zip vs)) = _
    rw [if_neg (fun z => h (by rw [z]; exact List.mem_cons_self) : ¬ n = f), putF_new (fun z => h (List.mem_cons_of_mem _ z)) (by simpa using hl)]
    rfl
end
section
variable {X : Cx} {cfg : Cfg} {k : Nat} {f C : Addr} {fd : FuncData} {ps : List Str} {sp : Sp} {x m : Str} {p pos apos : Pos} {e o : Expr} {es : List Expr} {ta : TE} {t : TA}
theorem runG' (a : At X cfg) {pins : List (Addr × Obj)} {σ : L2.St} {H : Hp} {s : Shared} {Q : VK} {us : List Value} {zs : List V} (F : FnG cfg k f fd ps sp) (hr : Room k X.A) (I : Inv X pins σ H s) (hb : Binds cfg.K fd ps []) (r : Vals zs us) (h : sp zs H Q E0) :
    wpAny (model X.prog X.w) X.A (call (.ref f) us) (EP X pins σ Q) X.xe s := by
  have hl : us.length = ps.length := by rw [← r.length]; exact F.arity _ _ _ _ h
  have z := hb s us (by have := I.kIn; rw [a.hK] at this; exact this) (by rw [List.append_nil]; exact hl)
  rw [List.append_nil] at z
  exact runG a (args := ⟨us, []⟩) F hr I z r h
theorem pe_methG {pl : Sem Bool} (a : At X cfg) (he : PE X o ta) (c : Cls X.K C) (hm : Meth X.K C m f) (F : FnG cfg k f fd ps sp) (hr : Room k X.A) (hb : Binds cfg.K fd ps []) (ha : PA X (e :: es) t)
    (hst : starEach (e :: es) X.env = (false, eval e X.env) :: starEach es X.env) (hpl : (backTo pos (starEach es X.env)).any (·.1) = false)
    (ht : eval (.Call (.Attribute o m apos) (e :: es) [] pos) X.env = (do
      let ov ← eval o X.env
      standAt apos.atName
      let (f, first) ← holding [ov] (getMethod ov m pl)
      callWith pos f first (backTo pos (starEach (e :: es) X.env)) (backToKw pos (keywordEach [] X.env)))) :
    PE X (.Call (.Attribute o m apos) (e :: es) [] pos) (tMeth C m sp [] E0 ta t) := by
  refine ⟨fun pins s σ H Q I h => ?_⟩
  refine PySem.W.methodCall_KW (pl := pl) (thn (he.run pins s σ H _ I h) fun u s1 ⟨x, H1, I1, rx, ad, dx, fs, ex, ea, l, q⟩ => ?_) ht
  subst ex
  obtain rfl : u = Value.ref ad := rx
  refine getmeth_ok I1 ea c hm l ?_
  refine PySem.W.callWith_K (first := [.ref ad]) (h₀ := X.base) I1.ok.mod.kin hm.kp (thn (ha.run pos pins s1 σ H1 _ I1 q) fun us s2 ⟨vs, H2, I2, r, q2⟩ => ⟨I2.kIn, ?_⟩) hst hpl
  have q2 : sp (V.ref ad :: (vs ++ [])) H2 Q E0 := q2
  rw [List.append_nil] at q2
  exact runG' a (us := .ref ad :: us) (zs := .ref ad :: vs) F hr I2 hb (.cons rfl r) q2
theorem run_makeG (a : At X cfg) {pins : List (Addr × Obj)} {σ : L2.St} {H : Hp} {s : Shared} {Q : VK} {us : List Value} {vs : List V} (M : Mk X.K C f) (F : FnG cfg k f fd ps sp) (hr : Room (k + 1) X.A) (hb : Binds cfg.K fd ps [])
    (I : Inv X pins σ H s) (r : Vals vs us)
    (h : ∀ x dx, H x = none → H dx = none → dx ≠ x → sp (.ref x :: vs) (upd (upd H dx (.own x)) x (.ins C dx [])) (fun v H2 => v = .non ∧ Q (.ref x) H2) E0) :
    wpAny (model X.prog X.w) X.A (call (.ref C) us) (EP X pins σ Q) X.xe s := by
  have hq := h (s.heap.objs.size + 1) s.heap.objs.size (I.hok.fresh (Nat.le_succ _)) (I.hok.fresh (Nat.le_refl _)) (Nat.ne_of_lt (Nat.lt_succ_self _))
  have I2 := Inv.made (C := C) I
  have r2 : Vals (V.ref (s.heap.objs.size + 1) :: vs) (Value.ref (s.heap.objs.size + 1) :: us) := .cons rfl r
  have hl : (Value.ref (s.heap.objs.size + 1) :: us).length = ps.length := by
    rw [← r2.length]; exact F.arity _ _ _ _ hq
  have e0 : Env0 cfg.P cfg.w cfg.K cfg.mg cfg.base (X.A.under (.builtin "type.__call__" ⟨.ref C :: us, []⟩)) X.stack { s with heap := (s.heap.push PySem.W.emptyDict).push (PySem.W.instObj C s.heap.objs.size) } (upd (upd H s.heap.objs.size (.own (s.heap.objs.size + 1))) (s.heap.objs.size + 1) (.ins C s.heap.objs.size [])) := by
    have z := I2.env0.make C us []
    rw [a.hP, a.hw, a.hK, a.hmg, a.hbase] at z
    exact z
  have z := hb { s with heap := (s.heap.push PySem.W.emptyDict).push (PySem.W.instObj C s.heap.objs.size) } (Value.ref (s.heap.objs.size + 1) :: us) (by have := I2.kIn; rw [a.hK] at this; exact this) (by rw [List.append_nil]; exact hl)
  rw [List.append_nil] at z
  have w := F.go _ X.stack _ _ ⟨Value.ref (s.heap.objs.size + 1) :: us, []⟩ (Value.ref (s.heap.objs.size + 1) :: us) _ _ E0 (hr.make C us []) (by exact a.gd) e0 z r2 hq
  rw [← a.hP, ← a.hw] at w
  refine wpAny_call (make_map (f := f) I.kIn M.makes M.init (beq_iff_eq.mp M.fn) (codeAny_mono w fun r s' hq' => ?_))
  cases r with
  | error e => exact hq'.elim
  | ok fl =>
    cases fl with
    | ret u =>
      obtain ⟨v, H', I3, rv, ev, q3⟩ := I2.after hq'
      subst ev
      exact ⟨rv, ⟨V.ref (s.heap.objs.size + 1), H', I3, rfl, q3⟩⟩
    | next => exact False.elim hq'
    | brk => exact False.elim hq'
    | cont => exact False.elim hq'
theorem pe_makeG (a : At X cfg) (M : Mk X.K C f) (F : FnG cfg k f fd ps sp) (hr : Room (k + 1) X.A) (hg : Gl X x) (hm : X.mg x = some (.ref C)) (hb : Binds cfg.K fd ps [])
    (ha : PA X (e :: es) t) (hdb : (x == ("__debug__" : Str)) = false) (he : starEach (e :: es) X.env = (false, eval e X.env) :: starEach es X.env) (hpl : (backTo pos (starEach es X.env)).any (·.1) = false) :
    PE X (.Call (.Name x p) (e :: es) [] pos) (tMake C sp [] E0 t) := by
  refine ⟨fun pins s σ H Q I h => ?_⟩
  refine wpAny_Call_Name_kw (ld_glob I hg hm ?_ hdb)
  refine PySem.W.callWith_K (h₀ := X.base) I.ok.mod.kin M.kp (thn (ha.run pos pins s σ H _ I h) fun us s1 ⟨vs, H1, I1, r, q⟩ => ⟨I1.kIn, ?_⟩) he hpl
  exact run_makeG a M F hr hb I1 r fun x dx h1 h2 h3 => by
    have z := q x dx h1 h2 h3
    rw [List.append_nil] at z
    exact z
end
/-- the def m of the class C, at fa -/
structure FnM (cfg : Cfg) (k : Nat) (C : Addr) (m : Str) (fa : Addr) (fd : FuncData) (ps : List Str) (np : Nat) (f : List O → Option (O × List O)) : Prop where
  cl : Cls cfg.K C
  mt : Meth cfg.K C m fa
  ok : FnG cfg k fa fd ps (spOf cfg.K np f)
  len : ∀ os r outs, f os = some (r, outs) → os.length = np → outs.length = np
/-- the class x of the module, at C, with its __init__ at fa -/
structure ClD (cfg : Cfg) (k : Nat) (x : Str) (C fa : Addr) (fd : FuncData) (ps : List Str) (np : Nat) (f : List O → Option (O × List O)) : Prop where
  at_ : cfg.mg x = some (.ref C)
  mks : Mk cfg.K C fa
  ok : FnG cfg k fa fd ps (spOf cfg.K np f)
  len : ∀ os r outs, f os = some (r, outs) → os.length = np → outs.length = np
section
variable {Γ : Gm} {e o : Expr} {es : List Expr} {x f : Str} {p pos pos' apos : Pos} {i k np : Nat} {C fa : Addr} {fd : FuncData} {ps : List Str} {m mo : M O} {ms : List (M Ar)} {fn : List O → Option (O × List O)}
theorem sd_fld (he : Sd Γ e m) (c : Cls Γ.cfg.K C) (n : NoAttr Γ.cfg.K C f) (hb : ∀ env : PySem.Env, attributeBase e f env (eval e env) = eval e env := by intro _; rfl) : Sd Γ (.Attribute e f pos) (mFld C f m) := ⟨fun X ok env o env' hm σ H T hr Q q => by
  unfold mFld at hm
  split at hm
  · rename_i o1 s1 h1
    split at hm
    · rename_i C' ns xs h2
      by_cases hc : C' = C
      · rw [if_pos hc] at hm
        subst hc
        split at hm
        · rename_i d h3
          have e1 := Option.some.inj hm
          injection e1 with e1 e2
          subst e1 e2
          refine ⟨_, pe_fld (pe_best X e) (hb X.env), ?_⟩
          refine he.run X ok env o1 s1 h1 σ H T hr _ fun v H1 r1 => ?_
          have r1 := r1.freeze
          rw [h2] at r1
          obtain ⟨L, hE, hS⟩ := r1
          obtain ⟨a, dx, vs, g1, g2, g3, g4, g5⟩ := St.read_obj (L := T ++ L) hS
          subst g1
          obtain ⟨w, g6, g7⟩ := lookup_zip g3 g4 h3
          refine ⟨a, C', dx, _, w, rfl, g2, by rw [ok.hK]; exact c, by rw [ok.hK]; exact n, g6, q w H1 ⟨L, hE, ?_⟩⟩
          have z := St.pick g5 g7
          exact z.sub (.cons₂ _ (.cons _ (.refl _)))
        · cases hm
      · rw [if_neg hc] at hm; cases hm
    · cases hm
  · cases hm⟩
theorem ss_fldP (i : Nat) (hv : Sd Γ e m) (c : Cls Γ.cfg.K C) (n : NoAttr Γ.cfg.K C f) (hN : Γ.N[i]? = some x := by rfl) (hvis : Γ.vis x = true := by kernel_rfl)
    (hs : ∀ env : PySem.Env, env.scope.names = Γ.sc → swapsWith e (some (.Attribute (.Name x p) f pos')) pos.line env = pure false := by intro _ _; rfl)
    (hd : (x == ("__debug__" : Str)) = false := by kernel_rfl) (hcd : (x == ("__classdict__" : Str)) = false := by kernel_rfl) : Ss Γ (.Assign [.Attribute (.Name x p) f pos'] e pos) (sFldP i C f m) [] := ⟨fun X ok env fl env' hm σ H T hr D q => by
  unfold sFldP at hm
  split at hm
  · rename_i y s1 h1
    split at hm
    · rename_i C' ns os h2
      by_cases hz : C' = C ∧ f ∉ ns ∧ ns.length = os.length ∧ ns.length < 1000
      · rw [if_pos hz] at hm
        have e1 := Option.some.inj hm
        injection e1 with e1 e2
        subst e1 e2
        obtain ⟨hc, h3, h4, h5⟩ := hz
        subst hc
        refine ⟨_, ps_fld (pe_var (i := i) (by rw [ok.hN]; exact hN) (ok.vis hvis) hd hcd) (pe_best X e) (hs X.env ok.hsc), ?_⟩
        refine hv.run X ok env y s1 h1 σ H T hr _ fun w H1 r1 => ?_
        obtain ⟨v, g1, r2⟩ := r1.take h2
        refine ⟨v, g1, ?_⟩
        obtain ⟨L, hE, hS⟩ := r2
        obtain ⟨a, dx, vs, e1, l1, l2, s2⟩ := St.open_obj (L := .rep y w :: T ++ L) hS
        subst e1
        refine ⟨a, C', dx, ns.zip vs, rfl, s2.raw_at, by rw [ok.hK]; exact c, by rw [ok.hK]; exact n, ?_, ?_⟩
        · rw [List.length_zip, ← l1, Nat.min_self]; exact h5
        rw [putF_new h3 l1]
        refine q σ _ ?_ (Kp.refl _ _)
        have s3 := s2.write (u' := .ins C' dx ((ns ++ [f]).zip (vs ++ [w])))
        have s4 : St Γ.cfg.K (upd H1 a (.ins C' dx ((ns ++ [f]).zip (vs ++ [w])))) (.rep (.obj C' (ns ++ [f]) (os ++ [y])) (.ref a) :: (T ++ L)) := by
          refine St.close_obj (dx := dx) (vs := vs ++ [w]) (by simp [l1]) (by simp [l2]) (s3.perm (.cons _ (.cons _ ?_)))
          rw [reps_snoc _ _ _ _ l2, List.append_assoc]
          exact .refl _
        have r3 : RS Γ.cfg.K _ _ σ T := RS.putSame (T := T) ⟨L, hE, s4⟩ g1
        rw [List.set_set] at r3
        exact r3
      · rw [if_neg hz] at hm; cases hm
    · cases hm
  · cases hm⟩
theorem sd_obj_its {K : PySem.W.Frag} {H : Hp} {env : Env} {σ : L2.St} {T : List It} {ns : List Str} {xs : List D} {v : V} (h : RS K H env σ (.rep (.d (.obj C ns xs)) v :: T)) : ∃ a dx vs, v = .ref a ∧ H a = some (.ins C dx (ns.zip vs)) := by
  obtain ⟨L, hE, hS⟩ := h
  obtain ⟨a, dx, vs, g1, g2, _⟩ := St.read_obj (L := T ++ L) hS
  exact ⟨a, dx, vs, g1, g2⟩
theorem mObj_some {env : Env} {r : O × Env} (h : mObj C f mo env = some r) : ∃ o1 ns xs, mo env = some (o1, r.2) ∧ o1.toD = .obj C ns xs ∧ f ∉ ns ∧ r.1 = .d (.obj C ns xs) := by
  unfold mObj at h
  split at h
  · rename_i o1 s1 h1
    split at h
    · rename_i C' ns xs h2
      by_cases hc : C' = C ∧ f ∉ ns
      · rw [if_pos hc] at h
        have e1 := Option.some.inj h
        subst e1
        obtain ⟨hc1, hc2⟩ := hc
        subst hc1
        exact ⟨o1, ns, xs, h1, h2, hc2, rfl⟩
      · rw [if_neg hc] at h; cases h
    · cases h
  · cases h
theorem mars_cons {A : M Ar} {env s1 : Env} {ars : List Ar} (h : mars (A :: ms) env = some (ars, s1)) : ∃ a s2 l, A env = some (a, s2) ∧ mars ms s2 = some (l, s1) ∧ ars = a :: l := by
  obtain ⟨a, s2, h1, h2⟩ := mbind_some (show mbind A (fun a => mbind (mars ms) fun l => mpure (a :: l)) env = _ from h)
  obtain ⟨l, s3, h3, h4⟩ := mbind_some h2
  have e1 := Option.some.inj (show some (a :: l, s3) = some (ars, s1) from h4)
  injection e1 with e1 e2
  subst e1 e2
  exact ⟨a, s2, l, h1, h3, rfl⟩
theorem aval_some {env s1 : Env} {a : Ar} (h : aval m env = some (a, s1)) : ∃ o, m env = some (o, s1) ∧ a = .val o := by
  unfold aval at h
  split at h
  · rename_i o s' h1
    have e1 := Option.some.inj h
    injection e1 with e1 e2
    subst e1 e2
    exact ⟨o, h1, rfl⟩
  · cases h
theorem sd_meth (pl : PySem.Env → Sem Bool) (F : FnM Γ.cfg k C f fa fd ps np fn) (hb : Binds Γ.cfg.K fd ps []) (ho : Sd Γ o mo) (hn : NoStars (e :: es)) (ha : Sars Γ (e :: es) ms) (hl : (e :: es).length + 1 = np := by rfl) (hk : k ≤ Γ.n := by exact Nat.le_of_ble_eq_true rfl)
    (ht : ∀ env : PySem.Env, eval (.Call (.Attribute o f apos) (e :: es) [] pos) env = (do
      let ov ← eval o env
      standAt apos.atName
      let (f, first) ← holding [ov] (getMethod ov f (pl env))
      callWith pos f first (backTo pos (starEach (e :: es) env)) (backToKw pos (keywordEach [] env))) := by intro _; rfl) :
    Sd Γ (.Call (.Attribute o f apos) (e :: es) [] pos) (mCall fn (aval (mObj C f mo) :: ms)) := ⟨fun X ok env o' env' hm σ H T hr Q q => by
  obtain ⟨ars, s1, os, s2, o', outs, s3, h1, h2, h3, h4, e1⟩ := mCall_some hm
  injection e1 with e1 e2
  subst e1 e2
  obtain ⟨a0, s0, l, g1, g2, g3⟩ := mars_cons h1
  subst g3
  obtain ⟨o0, g4, g5⟩ := aval_some g1
  subst g5
  obtain ⟨o1, ns, xs, g6, g7, g8, g9⟩ := mObj_some g4
  have g9 : o0 = .d (.obj C ns xs) := g9
  subst g9
  refine ⟨_, pe_methG (pl := pl X.env) ok.at_ (pe_best X o) (by rw [ok.hK]; exact F.cl) (by rw [ok.hK]; exact F.mt) F.ok (ok.room.mono hk) hb (pa_of hn) (ns_head hn _) (backTo_plain (ns_tail hn)) (ht X.env), ?_⟩
  refine ho.run X ok env o1 s0 g6 σ H T hr _ fun v H1 r1 => ?_
  have r1 := r1.freeze
  rw [g7] at r1
  obtain ⟨a, dx, vs0, e1, e2⟩ := sd_obj_its r1
  subst e1
  refine ⟨a, dx, _, rfl, e2, lookup_no g8, ?_⟩
  have w := ha.run X ok s0 l s1 g2 σ H1 _ r1 (fun vs H' => RS Γ.cfg.K H' s1 σ ((List.zipWith Ar.its l vs).flatten ++ (.rep (.d (.obj C ns xs)) (.ref a) :: T)) ∧ l.length = vs.length ∧ (∀ p ∈ l.zip vs, p.1.at σ p.2)) fun vs H' r l a => ⟨r, l, a⟩
  refine wl_len.wl_mono (wl_len w) fun vs H' ⟨hv, r, l1, a1⟩ => ?_
  rw [List.append_nil]
  have r2 : RS Γ.cfg.K H' s1 σ ((List.zipWith Ar.its (.val (.d (.obj C ns xs)) :: l) (.ref a :: vs)).flatten ++ T) := r.perm (by
    show List.Perm _ (.rep (.d (.obj C ns xs)) (.ref a) :: ((List.zipWith Ar.its l vs).flatten ++ T))
    exact List.perm_middle)
  have at2 : ∀ p ∈ (Ar.val (.d (.obj C ns xs)) :: l).zip (V.ref a :: vs), p.1.at σ p.2 := fun p hp => by
    rcases List.mem_cons.mp hp with rfl | hp
    · trivial
    · exact a1 p hp
  have l2 : (Ar.val (.d (.obj C ns xs)) :: l).length = (V.ref a :: vs).length := by simp [l1]
  have hos : os.length = (V.ref a :: vs).length := (take_rs h2 l2 at2 r2).1
  have hnp : (V.ref a :: vs).length = np := by rw [List.length_cons, hv]; exact hl
  exact call_read (cfg := Γ.cfg) h2 h3 h4 l2 at2 r2 hnp (F.len _ _ _ h3 (hos.trans hnp)) q⟩
theorem mMake_some {env : Env} {r : O × Env} (h : mMake C fn ms env = some r) : ∃ ars s1 os s2 o outs s3, mars ms env = some (ars, s1) ∧ takeArs ars s1 = some (os, s2) ∧ fn (.obj C [] [] :: os) = some (.d .non, o :: outs) ∧ giveArs ars outs s2 = some ((), s3) ∧ r = (o, s3) := by
  obtain ⟨ars, s1, h1, h2⟩ := mbind_some h
  obtain ⟨os, s2, h3, h4⟩ := mbind_some h2
  split at h4
  · rename_i o outs q
    split at h4
    · rename_i u s3 q2
      exact ⟨ars, s1, os, s2, o, outs, s3, h1, h3, q, q2, (Option.some.inj h4).symm⟩
    · cases h4
  · cases h4
theorem sd_make (F : ClD Γ.cfg k x C fa fd ps np fn) (hb : Binds Γ.cfg.K fd ps []) (hn : NoStars (e :: es)) (ha : Sars Γ (e :: es) ms) (hl : (e :: es).length + 1 = np := by rfl) (hk : k + 1 ≤ Γ.n := by exact Nat.le_of_ble_eq_true rfl) (hg : Γ.glo x = true := by kernel_rfl) (hdb : (x == ("__debug__" : Str)) = false := by kernel_rfl) :
    Sd Γ (.Call (.Name x p) (e :: es) [] pos) (mMake C fn ms) := ⟨fun X ok env ov env' hm σ H T hr Q q => by
  obtain ⟨ars, s1, os, s2, o', outs, s3, h1, h2, h3, h4, e1⟩ := mMake_some hm
  injection e1 with e1 e2
  subst e1 e2
  refine ⟨_, pe_makeG ok.at_ (by rw [ok.hK]; exact F.mks) F.ok (ok.room.mono hk) (ok.glo hg) (by rw [ok.hmg]; exact F.at_) hb (pa_of hn) hdb (ns_head hn _) (backTo_plain (ns_tail hn)), ?_⟩
  have w := ha.run X ok env ars s1 h1 σ H T hr (fun vs H' => RS Γ.cfg.K H' s1 σ ((List.zipWith Ar.its ars vs).flatten ++ T) ∧ ars.length = vs.length ∧ (∀ p ∈ ars.zip vs, p.1.at σ p.2)) fun vs H' r l a => ⟨r, l, a⟩
  refine wl_len.wl_mono (wl_len w) fun vs H' ⟨hv, r, l, a⟩ => ?_
  intro xa dx hx hdx hne
  rw [List.append_nil]
  obtain ⟨lo, L, hE, hS⟩ := take_rs h2 l a r
  have hS1 := St.alloc (u := .own xa) hdx hS
  have hx1 : (upd H' dx (.own xa)) xa = none := by rw [upd_ne (Ne.symm hne)]; exact hx
  have hS2 := St.alloc (u := .ins C dx (([] : List Str).zip ([] : List V))) hx1 hS1
  have hS3 : St Γ.cfg.K _ (.rep (.obj C [] []) (.ref xa) :: (reps os vs ++ T ++ L)) := St.close_obj (ns := []) (os := []) (vs := []) (L := reps os vs ++ T ++ L) rfl rfl hS2
  have np1 : os.length + 1 = np := by rw [lo, hv]; exact hl
  have np2 : (ov :: outs).length = np := F.len _ _ _ h3 np1
  refine ⟨T ++ L, .obj C [] [] :: os,   .d .non, ov :: outs, h3, np1, by rw [List.length_cons, hv]; exact hl, np2, ?_, fun v H2 hS' => ?_⟩
  · show St Γ.cfg.K _ (.rep (.obj C [] []) (.ref xa) :: (reps os vs ++ (T ++ L)))
    rw [← List.append_assoc]; exact hS3
  · refine ⟨hS'.nonv, q _ _ ?_⟩
    have s4 : St Γ.cfg.K H2 (.rep ov (.ref xa) :: (reps outs vs ++ (T ++ L))) := hS'.drop
    have r3 : RS Γ.cfg.K H2 s2 σ ([.rep ov (.ref xa)] ++ (reps outs vs ++ T)) := ⟨L, hE, by
      rw [← List.append_assoc] at s4
      exact s4⟩
    exact give_rs h4 l a r3⟩
end
end BM
set_option Elab.async false
set_option linter.all false
set_option maxRecDepth 100000
set_option maxHeartbeats 4000000
namespace BM
open PySem PySem.Spec PyProof.Rows L2
variable [Tb]
theorem sw_cell {elt : Expr} {gens : List Comprehension} {sc : Scope} {pos tp : Pos} {t : Str} {line : Nat} {env : PySem.Env} {nm : List (Str × NameKind)} (he : env.scope.names = nm) (h : (nm.lookup t == some .local) = false) :
    swapsWith (.ListComp elt gens sc pos) (some (.Name t tp)) line env = pure false := by
  have e : (env.kindOf t == some .local) = false := by
    show (env.scope.names.lookup t == some .local) = false
    rw [he]; exact h
  show (pure (env.blockKind == .function && env.kindOf t == some .local && tp.line == pos.line && !(sc.names.any fun (n, k) => n == t && (k == .local || k == .cell))) : Sem Bool) = pure false
  rw [e]
  simp
theorem sw_fold {ts vs : List Expr} {k k2 : Nat} {p p2 : Pos} {env : PySem.Env} (h : vs.all (foldedForSure 8) = true) : swappedStores [.Tuple ts k p] (.Tuple vs k2 p2) env = pure none := by
  unfold swappedStores
  simp only [h, if_true]
  split
  · rfl
  · split
    · rfl
    · split
      · rfl
      · rfl
def repS (x : Str) (n : Nat) : Str := ⟨(List.replicate n x.cps).foldl (· ++ ·) #[]⟩
def mulS (x : Str) (k : Int) : Str := if k < 1 then Str.empty else if (k == 1 || x.length == 0) = true then x else repS x k.toNat
def fMulX : D → D → Option O
  | .str x, .int k => if 0 ≤ k ∧ k ≤ 100000 ∧ x.length ≤ 100 then some (.d (.str (mulS x k))) else none
  | a, b => fMul a b
theorem repS_fold (a : Array Nat) : ∀ (n : Nat) (acc : Array Nat), ((List.replicate n a).foldl (· ++ ·) acc).size = acc.size + n * a.size
  | 0, acc => by simp
  | n + 1, acc => by
    rw [List.replicate_succ, List.foldl_cons, repS_fold a n, Array.size_append, Nat.succ_mul]
    omega
theorem repS_len (x : Str) (n : Nat) : (repS x n).length = n * x.length := by
  show ((List.replicate n x.cps).foldl (· ++ ·) #[]).size = n * x.cps.size
  rw [repS_fold]; simp
def rMulS : R2 := fun x y H Q => ∃ (z : Str) (k : Int), x = .str z ∧ y = .int k ∧ 0 ≤ k ∧ k ≤ 100000 ∧ z.length ≤ 100 ∧ Q (.str (mulS z k)) H
theorem op_mulS {X : Cx} : OpR X (binaryOp .Mult) rMulS := by
  rintro pins s σ H x y v u Q I rx ry ⟨z, k, rfl, rfl, h1, h2, h3, q⟩
  obtain ⟨t, rfl⟩ := (show ∃ t, v = Value.str z t from rx)
  obtain ⟨t', rfl⟩ := (show ∃ t', u = Value.int k t' from ry)
  refine P.mul_str ?_ (fun hk _ => ?_) (fun hk _ => ?_) ?_
  · rw [decide_eq_false (by omega), decide_eq_false (by omega)]; rfl
  · intro h4
    have h5 : (92233720368547 : Int) ≤ (2 ^ 63 - 1) / k := by
      rw [Int.le_ediv_iff_mul_le (by omega)]
      have : (92233720368547 : Int) * k ≤ 92233720368547 * 100000 := by omega
      omega
    omega
  · have h4 : z.length * k.toNat ≤ 100 * 100000 := Nat.mul_le_mul h3 (by omega)
    unfold Builtin.Str.tooLong
    have := sizeLine_eq
    simp
    omega
  · unfold mulS at q
    split
    · rename_i hk
      rw [if_pos hk] at q
      exact ⟨by decide, V.str _, H, I.tok _, ⟨_, rfl⟩, q⟩
    · rename_i hk
      rw [if_neg hk] at q
      split
      · rename_i hj
        rw [if_pos hj] at q
        exact ⟨V.str _, H, I, ⟨_, rfl⟩, q⟩
      · rename_i hj
        rw [if_neg hj] at q
        exact ⟨by
          have h6 := repS_len z k.toNat
          have h7 : k.toNat * z.length ≤ 100000 * 100 := Nat.mul_le_mul (by omega) h3
          have := sizeLine_eq
          show (repS z k.toNat).length ≤ sizeLine
          omega, V.str _, H, I.tok _, ⟨_, rfl⟩, q⟩
section
variable {Γ : Gm} {e tg : Expr} {m : M O} {p pos tpos : Pos} {elts : List Expr} {kk : Nat}
theorem ok_mulX : OkB Γ (binaryOp .Mult) (w2 fMulX) := okB_of fun X ok H L x y d e o hS lx ly hF Q q => by
  unfold fMulX at hF
  split at hF
  · rename_i z k
    by_cases hz : 0 ≤ k ∧ k ≤ 100000 ∧ z.length ≤ 100
    · rw [if_pos hz] at hF
      have e1 := Option.some.inj hF
      subst e1
      exact ⟨_, op_mulS, z, k, lx.str hS, ly.int hS, hz.1, hz.2.1, hz.2.2, q _ H (hS.flat rfl)⟩
    · rw [if_neg hz] at hF; cases hF
  · exact ok_mul X ok H L x y d e o hS lx ly hF Q q
def iEnA (m : M O) : M (List D) := fun s => match m s with
  | some (o, s') => match listOfD o.toD with
    | some l => some (enumD l, s')
    | none => none
  | none => none
end
end BM
set_option Elab.async false
set_option linter.all false
set_option maxRecDepth 100000
set_option maxHeartbeats 4000000
namespace BM
open PySem PySem.Spec PyProof.Rows L2
variable [Tb]
mutual
def okD : D → Bool
  | .non => true
  | .bl _ => true
  | .int i => decide (i.natAbs.log2 < 1920)
  | .str x => PyData.strOk x
  | .tup l => okDs l
  | .lst l => okDs l
  | _ => false
def okDs : List D → Bool
  | [] => true
  | x :: r => okD x && okDs r
end
mutual
def wtD : D → Nat
  | .non => 4
  | .bl _ => 5
  | .int i => if 0 ≤ i ∧ i < 10 ^ 10 then 10 else 1921
  | .str x => 10 * x.length + 2
  | .tup l => wtDs l + 3
  | .lst l => wtDs l + 3
  | _ => 0
def wtDs : List D → Nat
  | [] => 0
  | x :: r => wtD x + 2 + wtDs r
end
mutual
def dpD : D → Nat
  | .tup l => dpDs l + 1
  | .lst l => dpDs l + 1
  | _ => 0
def dpDs : List D → Nat
  | [] => 0
  | x :: r => max (dpD x) (dpDs r)
end
mutual
def pyT : D → PyData
  | .bl b => .bool b
  | .int i => .int i
  | .str x => .str x
  | .tup l => .tuple (pyTs l)
  | .lst l => .list (pyTs l)
  | _ => .none
def pyTs : List D → List PyData
  | [] => []
  | x :: r => pyT x :: pyTs r
end
theorem depthAll_cons (x : PyData) (r : List PyData) : PyData.depthAll (x :: r) = max x.depth (PyData.depthAll r) := by rw [PyData.depthAll]
mutual
theorem okD_py : ∀ {d : D}, okD d = true → D.py d = some (pyT d) ∧ (pyT d).canLay0 = true ∧ (pyT d).showable = true ∧ (pyT d).hasDict = false ∧ sz (pyT d) ≤ wtD d ∧ (pyT d).depth = dpD d
  | .non, _ => by simp [D.py, pyT, PyData.canLay0, PyData.showable, PyData.hasDict, sz, wtD, PyData.depth, dpD]
  | .bl b, _ => by simp [D.py, pyT, PyData.canLay0, PyData.showable, PyData.hasDict, sz, wtD, PyData.depth, dpD]
  | .int i, h => by
    rw [okD] at h
    refine ⟨by simp [D.py, pyT], by simp [pyT, PyData.canLay0], by simp only [pyT, PyData.showable]; exact h, by simp [pyT, PyData.hasDict], ?_, by simp [pyT, PyData.depth, dpD]⟩
    simp only [pyT, sz, wtD]
    by_cases h2 : 0 ≤ i ∧ i < 10 ^ 10
    · rw [if_pos h2]; exact toString_length_le h2.1 (by decide) h2.2
    · rw [if_neg h2]; exact int_text_len_1921 (of_decide_eq_true h)
  | .str x, h => by
    rw [okD] at h
    simp [D.py, pyT, PyData.canLay0, PyData.showable, PyData.hasDict, sz, wtD, PyData.depth, dpD, h]
  | .tup l, h => by
    rw [okD] at h
    obtain ⟨h1, h2, h3, h4, h5, h6⟩ := okDs_py h
    simp [D.py, pyT, PyData.canLay0, PyData.showable, PyData.hasDict, sz, wtD, PyData.depth, dpD, h1, h2, h3, h4, h5, h6]
  | .lst l, h => by
    rw [okD] at h
    obtain ⟨h1, h2, h3, h4, h5, h6⟩ := okDs_py h
    simp [D.py, pyT, PyData.canLay0, PyData.showable, PyData.hasDict, sz, wtD, PyData.depth, dpD, h1, h2, h3, h4, h5, h6]
  | .dct _, h => by simp [okD] at h
  | .obj _ _ _, h => by simp [okD] at h
theorem okDs_py : ∀ {l : List D}, okDs l = true → D.pys l = some (pyTs l) ∧ PyData.canLayAll0 (pyTs l) = true ∧ PyData.showableAll (pyTs l) = true ∧ PyData.hasDictAll (pyTs l) = false ∧ szs (pyTs l) ≤ wtDs l ∧ PyData.depthAll (pyTs l) = dpDs l
  | [], _ => by simp [D.pys, pyTs, PyData.canLayAll0, PyData.showableAll, PyData.hasDictAll, szs, wtDs, PyData.depthAll, dpDs]
  | x :: r, h => by
    rw [okDs, Bool.and_eq_true] at h
    obtain ⟨h1, h2, h3, h4, h5, h6⟩ := okD_py h.1
    obtain ⟨g1, g2, g3, g4, g5, g6⟩ := okDs_py h.2
    refine ⟨by simp [D.pys, pyTs, h1, g1], by simp [pyTs, PyData.canLayAll0, h2, g2], by simp [pyTs, PyData.showableAll, h3, g3], by simp [pyTs, PyData.hasDictAll, h4, g4], by simp only [pyTs, szs, wtDs]; omega, ?_⟩
    simp only [pyTs, depthAll_cons, dpDs, h6, g6]
end
def rp (d : D) : Str := (pyT d).shown
theorem shaped_ok {d : D} (h : okD d = true) (hd : dpD d ≤ 60) : SeqAt.shaped (pyT d) = true := by
  obtain ⟨h1, h2, h3, h4, h5, h6⟩ := okD_py h
  unfold SeqAt.shaped
  rw [h2, h6, decide_eq_true (by omega)]
  rfl
theorem fEqD_ok {a b : D} (ha : okD a = true) (hb : okD b = true) (h1 : dpD a ≤ 60) (h2 : dpD b ≤ 60) : fEqD a b = some (PyData.eqv (pyT a) (pyT b)) := by
  unfold fEqD
  rw [(okD_py ha).1, (okD_py hb).1]
  simp only
  rw [shaped_ok ha h1, shaped_ok hb h2]
  rfl
theorem fEq_ok {a b : D} (ha : okD a = true) (hb : okD b = true) (h1 : dpD a ≤ 60) (h2 : dpD b ≤ 60) : fEq a b = some (PyData.eqv (pyT a) (pyT b)) := by
  have key := fEqD_ok ha hb h1 h2
  cases a with
  | str x =>
    cases b with
    | str y =>
      show some (decide (x = y)) = _
      simp only [pyT]
      congr 1
    | _ => exact key
  | dct _ => simp [okD] at ha
  | obj _ _ _ => simp [okD] at ha
  | _ => exact key
end BM
set_option Elab.async false
set_option linter.all false
set_option maxRecDepth 100000
set_option maxHeartbeats 4000000
namespace BM
open PySem PySem.Spec PyProof.Rows L2
variable [Tb]
section
variable {s : Env} {α β γ : Type}
/-- the type keeps simp out of x -/
structure Tg {α : Sort u} (x : α) : Type where
def ob (x : Option (α × Env)) (f : α → Env → Option β) (_ : Tg f := ⟨⟩) : Option β := match x with
  | some (a, s) => f a s
  | none => none
theorem ob_some (a : α) (f : α → Env → Option β) (t : Tg f) : ob (some (a, s)) f t = f a s := rfl
theorem ob_ext {x : Option (α × Env)} {f g : α → Env → Option β} (h : ∀ a s, f a s = g a s) : ob x f = ob x g := by
  have e : f = g := funext fun a => funext fun s => h a s
  rw [e]
def oo (x : Option α) (f : α → Option β) (_ : Tg f := ⟨⟩) : Option β := match x with
  | some a => f a
  | none => none
theorem oo_some (a : α) (f : α → Option β) (t : Tg f) : oo (some a) f t = f a := rfl
def vr (x : Option (Option O)) (s : Env) : Option (O × Env) := match x with
  | some (some (.d x)) => some (.d x, s)
  | _ => none
theorem vr_some (x : D) : vr (some (some (.d x))) s = some (.d x, s) := rfl
def sl (x : Option (Option O)) (f : O → Option β) (_ : Tg f := ⟨⟩) : Option β := match x with
  | some (some o) => f o
  | _ => none
theorem sl_some (o : O) (f : O → Option β) (t : Tg f) : sl (some (some o)) f t = f o := rfl
def al (x : Option (Option O)) (f : List O → Option β) (_ : Tg f := ⟨⟩) : Option β := match x with
  | some (some (.lst os)) => f os
  | _ => none
theorem al_some (o : List O) (f : List O → Option β) (t : Tg f) : al (some (some (.lst o))) f t = f o := rfl
def fk (b : M Fl) : Fl → Env → Option (Fl × Env)
  | .nx, s => b s
  | .bk, s => some (.bk, s)
  | .ct, s => some (.ct, s)
  | .rt o, s => some (.rt o, s)
theorem fk_nx (b : M Fl) : fk b .nx s = b s := rfl
theorem fk_bk (b : M Fl) : fk b .bk s = some (.bk, s) := rfl
theorem fk_ct (b : M Fl) : fk b .ct s = some (.ct, s) := rfl
theorem fk_rt (b : M Fl) (o : O) : fk b (.rt o) s = some (.rt o, s) := rfl
def lk (b : M Fl) : Fl → Env → Option (Fl × Env)
  | .nx, s => b s
  | .bk, s => some (.nx, s)
  | .ct, s => b s
  | .rt o, s => some (.rt o, s)
theorem lk_nx (b : M Fl) : lk b .nx s = b s := rfl
theorem lk_bk (b : M Fl) : lk b .bk s = some (.nx, s) := rfl
theorem lk_ct (b : M Fl) : lk b .ct s = b s := rfl
theorem lk_rt (b : M Fl) (o : O) : lk b (.rt o) s = some (.rt o, s) := rfl
def rk (f : O → Env → Option β) : Fl → Env → Option β
  | .nx, s => f (.d .non) s
  | .rt o, s => f o s
  | _, _ => none
theorem rk_nx (f : O → Env → Option β) : rk f .nx s = f (.d .non) s := rfl
theorem rk_rt (f : O → Env → Option β) (o : O) : rk f (.rt o) s = f o s := rfl
def rg1 : O → Env → Option (List D × Env)
  | .d (.int j), s => if -(2 ^ 62) ≤ j ∧ j < 2 ^ 62 then some (upto 0 j.toNat, s) else none
  | _, _ => none
theorem rg1_int (j : Int) : rg1 (.d (.int j)) s = (if -(2 ^ 62) ≤ j ∧ j < 2 ^ 62 then some (upto 0 j.toNat, s) else none) := rfl
theorem e_pure (a : α) : mpure a s = some (a, s) := rfl
theorem e_bind (m : M α) (f : α → M β) : mbind m f s = ob (m s) f := by
  unfold mbind ob; cases m s <;> rfl
theorem e_var (i : Nat) : mVar i s = vr s[i]? s := by
  unfold mVar vr
  cases s[i]? with
  | none => rfl
  | some x =>
    cases x with
    | none => rfl
    | some o => cases o <;> rfl
theorem e_fz (i : Nat) : mFz i s = sl s[i]? fun o => some (.d o.toD, s.set i (some (.d o.toD))) := by
  unfold mFz sl
  cases s[i]? with
  | none => rfl
  | some x => cases x <;> rfl
theorem e_mv (i : Nat) : mMv i s = sl s[i]? fun o => some (o, s.set i none) := by
  unfold mMv sl
  cases s[i]? with
  | none => rfl
  | some x => cases x <;> rfl
theorem e_C (d : D) : mC d s = some (.d d, s) := rfl
theorem e_val (m : M O) : mval m s = ob (m s) fun o s' => some (.val o.toD, s') := by
  unfold mval ob; cases m s <;> rfl
theorem e_pl (i : Nat) : mPl i s = sl s[i]? fun _ => some (.plc i, s) := by
  unfold mPl sl
  cases s[i]? with
  | none => rfl
  | some x => cases x <;> rfl
theorem e_mods0 : mods [] s = some ([], s) := rfl
theorem e_mods (m : M Od) (r : List (M Od)) : mods (m :: r) s = ob (m s) fun a s1 => ob (mods r s1) fun l s2 => some (a :: l, s2) := by
  show mbind m (fun a => mbind (mods r) fun l => mpure (a :: l)) s = _
  rw [e_bind]
  first | done | rfl | exact ob_ext fun _ _ => e_bind _ _ | exact ob_ext fun _ _ => (e_bind _ _).trans (ob_ext fun _ _ => e_bind _ _)
theorem e_get0 : odsGet s [] = some [] := rfl
theorem e_get (a : Od) (r : List Od) : odsGet s (a :: r) = oo (a.get s) fun d => oo (odsGet s r) fun l => some (d :: l) := by
  rw [odsGet]
  cases a.get s <;> cases odsGet s r <;> rfl
theorem e_getV (d : D) : Od.get s (.val d) = some d := rfl
theorem e_getP (i : Nat) : Od.get s (.plc i) = sl s[i]? O.flat := by
  show (match s[i]? with | some (some o) => o.flat | _ => none) = _
  unfold sl
  cases s[i]? with
  | none => rfl
  | some x => cases x <;> rfl
theorem e_flatD (x : D) : O.flat (.d x) = some x := rfl
theorem e_flatL (os : List O) : O.flat (.lst os) = oo (O.leafs os) fun l => some (.lst l) := by
  show (match O.leafs os with | some l => some (D.lst l) | none => none) = _
  unfold oo; cases O.leafs os <;> rfl
theorem e_leafs0 : O.leafs [] = some [] := rfl
theorem e_leafsD (x : D) (r : List O) : O.leafs (.d x :: r) = oo (O.leafs r) fun l => some (x :: l) := by
  rw [O.leafs]; unfold oo; cases O.leafs r <;> rfl
theorem e_ops (ms : List (M Od)) : mops ms s = ob (mods ms s) fun ods s' => oo (odsGet s' ods) fun ds => some (ds, s') := by
  unfold mops ob oo
  cases mods ms s with
  | none => rfl
  | some p => simp only; cases odsGet p.2 p.1 <;> rfl
theorem e_op (F : List D → Option O) (ms : List (M Od)) : mOp F ms s = ob (mops ms s) fun ds s' => oo (F ds) fun o => some (o, s') := by
  unfold mOp ob oo
  cases mops ms s with
  | none => rfl
  | some p => simp only; cases F p.1 <;> rfl
theorem e_tst (F : List D → Option Bool) (ms : List (M Od)) : mTst F ms s = ob (mops ms s) fun ds s' => oo (F ds) fun o => some (o, s') := by
  unfold mTst ob oo
  cases mops ms s with
  | none => rfl
  | some p => simp only; cases F p.1 <;> rfl
theorem e_bO (F : List D → Option Bool) (ds : List D) : bO F ds = oo (F ds) fun b => some (.d (.bl b)) := by
  unfold bO oo; cases F ds <;> rfl
theorem e_w1 (f : D → Option O) (a : D) : w1 f [a] = f a := rfl
theorem e_w2 (f : D → D → Option O) (a b : D) : w2 f [a, b] = f a b := rfl
theorem e_w1b (f : D → Option Bool) (a : D) : w1b f [a] = f a := rfl
theorem e_w2b (f : D → D → Option Bool) (a b : D) : w2b f [a, b] = f a b := rfl
theorem e_truth1 (d : D) : truth1 [d] = truthD d := rfl
theorem e_truthB (b : Bool) : truthD (.bl b) = some b := rfl
theorem e_truthI (i : Int) : truthD (.int i) = some (i != 0) := rfl
theorem e_truthN : truthD .non = some false := rfl
theorem e_truthL (l : List D) : truthD (.lst l) = some (!l.isEmpty) := rfl
theorem e_truthT (l : List D) : truthD (.tup l) = some (!l.isEmpty) := rfl
theorem e_args0 : mArgs [] s = some ([], s) := rfl
theorem e_args (m : M O) (r : List (M O)) : mArgs (m :: r) s = ob (m s) fun a s1 => ob (mArgs r s1) fun l s2 => some (a :: l, s2) := by
  show mbind m (fun a => mbind (mArgs r) fun l => mpure (a :: l)) s = _
  rw [e_bind]
  first | done | rfl | exact ob_ext fun _ _ => e_bind _ _ | exact ob_ext fun _ _ => (e_bind _ _).trans (ob_ext fun _ _ => e_bind _ _)
theorem e_tup (ms : List (M O)) : mTup ms s = ob (mArgs ms s) fun os s1 => some (.d (.tup (O.toDs os)), s1) := by
  unfold mTup
  rw [e_bind]
  first | done | rfl | exact ob_ext fun _ _ => e_bind _ _ | exact ob_ext fun _ _ => (e_bind _ _).trans (ob_ext fun _ _ => e_bind _ _)
theorem e_lst (ms : List (M O)) : mLst ms s = ob (mArgs ms s) fun os s1 => some (.lst os, s1) := by
  unfold mLst
  rw [e_bind]
  first | done | rfl | exact ob_ext fun _ _ => e_bind _ _ | exact ob_ext fun _ _ => (e_bind _ _).trans (ob_ext fun _ _ => e_bind _ _)
def ifk (a b : M α) (k : Bool) (s : Env) (_ : Tg a := ⟨⟩) (_ : Tg b := ⟨⟩) : Option (α × Env) := match k with
  | true => a s
  | false => b s
theorem ifk_t (a b : M α) (t : Tg a) (u : Tg b) : ifk a b true s t u = a s := rfl
theorem ifk_f (a b : M α) (t : Tg a) (u : Tg b) : ifk a b false s t u = b s := rfl
theorem e_if (c : M Bool) (a b : M α) : mIf c a b s = ob (c s) fun k s1 => ifk a b k s1 := by
  unfold mIf mbind ob
  cases c s with
  | none => rfl
  | some p => obtain ⟨k, s1⟩ := p; cases k <;> rfl
theorem e_sif (c : M Bool) (a b : M Fl) : sIf c a b s = ob (c s) fun k s1 => ifk a b k s1 := e_if c a b
theorem e_or (a b : M Bool) : tOr a b s = ob (a s) fun k s1 => ifk (mpure true) b k s1 := by
  unfold tOr mbind ob
  cases a s with
  | none => rfl
  | some p => obtain ⟨k, s1⟩ := p; cases k <;> rfl
theorem e_and (a b : M Bool) : tAnd a b s = ob (a s) fun k s1 => ifk b (mpure false) k s1 := by
  unfold tAnd mbind ob
  cases a s with
  | none => rfl
  | some p => obtain ⟨k, s1⟩ := p; cases k <;> rfl
theorem e_not (a : M Bool) : tNot a s = ob (a s) fun k s1 => some (!k, s1) := by
  unfold tNot
  rw [e_bind]
  first | done | rfl | exact ob_ext fun _ _ => e_bind _ _ | exact ob_ext fun _ _ => (e_bind _ _).trans (ob_ext fun _ _ => e_bind _ _)
theorem e_mnot (m : M Od) : mNot m s = ob (mTst truth1 [m] s) fun k s' => some (.d (.bl !k), s') := by
  unfold mNot ob; cases mTst truth1 [m] s <;> rfl
theorem e_yes : tYes s = some (true, s) := rfl
theorem e_mor (a b : M O) : mOr a b s = ob (a s) fun o s1 => oo (truthD o.toD) fun k => ifk (mpure (.d o.toD)) b k s1 := by
  unfold mOr mbind ob
  cases a s with
  | none => rfl
  | some p =>
    obtain ⟨o, s1⟩ := p
    cases h : truthD o.toD with
    | none => simp only [h]; rfl
    | some k => cases k <;> simp only [h] <;> rfl
theorem e_mand (a b : M O) : mAnd a b s = ob (a s) fun o s1 => oo (truthD o.toD) fun k => ifk b (mpure (.d o.toD)) k s1 := by
  unfold mAnd mbind ob
  cases a s with
  | none => rfl
  | some p =>
    obtain ⟨o, s1⟩ := p
    cases h : truthD o.toD with
    | none => simp only [h]; rfl
    | some k => cases k <;> simp only [h] <;> rfl
theorem e_mset (i : Nat) (o : O) : mset i o s = (if i < s.length then some ((), s.set i (some o)) else none) := rfl
theorem e_set (i : Nat) (m : M O) : sSet i m s = ob (m s) fun o s1 => ob (mset i (.d o.toD) s1) fun _ s2 => some (.nx, s2) := by
  unfold sSet
  rw [e_bind]
  first | done | rfl | exact ob_ext fun _ _ => e_bind _ _ | exact ob_ext fun _ _ => (e_bind _ _).trans (ob_ext fun _ _ => e_bind _ _)
theorem e_setO (i : Nat) (m : M O) : sSetO i m s = ob (m s) fun o s1 => ob (mset i o s1) fun _ s2 => some (.nx, s2) := by
  unfold sSetO
  rw [e_bind]
  first | done | rfl | exact ob_ext fun _ _ => e_bind _ _ | exact ob_ext fun _ _ => (e_bind _ _).trans (ob_ext fun _ _ => e_bind _ _)
theorem e_expr (m : M O) : sExpr m s = ob (m s) fun _ s1 => some (.nx, s1) := by
  unfold sExpr
  rw [e_bind]
  first | done | rfl | exact ob_ext fun _ _ => e_bind _ _ | exact ob_ext fun _ _ => (e_bind _ _).trans (ob_ext fun _ _ => e_bind _ _)
theorem e_ret (m : M O) : sRet m s = ob (m s) fun o s1 => some (.rt o, s1) := by
  unfold sRet
  rw [e_bind]
  first | done | rfl | exact ob_ext fun _ _ => e_bind _ _ | exact ob_ext fun _ _ => (e_bind _ _).trans (ob_ext fun _ _ => e_bind _ _)
theorem e_retN : sRetN s = some (.rt (.d .non), s) := rfl
theorem e_pass : sPass s = some (.nx, s) := rfl
theorem e_break : sBreak s = some (.bk, s) := rfl
theorem e_cont : sCont s = some (.ct, s) := rfl
theorem e_seq (a b : M Fl) : sSeq a b s = ob (a s) (fk b) := by
  unfold sSeq mbind ob
  cases a s with
  | none => rfl
  | some p => obtain ⟨f, s1⟩ := p; cases f <;> rfl
theorem e_gNm (i : Nat) (d : D) : gNm i d s = mset i (.d d) s := rfl
theorem e_gTs0 : gTs [] [] s = some ((), s) := rfl
theorem e_gTs (g : D → M Unit) (gs : List (D → M Unit)) (d : D) (ds : List D) : gTs (g :: gs) (d :: ds) s = ob (g d s) fun _ s1 => gTs gs ds s1 := by
  simp only [gTs, e_bind, e_pure]
theorem e_gTp (gs : List (D → M Unit)) (ds : List D) : gTp gs (.tup ds) s = gTs gs ds s := rfl
theorem e_gTpST (gs : List (D → M Unit)) (ds : List D) : gTpS gs (.tup ds) s = gTs gs ds s := rfl
theorem e_gTpSL (gs : List (D → M Unit)) (ds : List D) : gTpS gs (.lst ds) s = gTs gs ds s := rfl
theorem e_tgt (g : D → M Unit) (m : M O) : sTgt g m s = ob (m s) fun o s1 => ob (g o.toD s1) fun _ s2 => some (.nx, s2) := by
  unfold sTgt
  rw [e_bind]
  first | done | rfl | exact ob_ext fun _ _ => e_bind _ _ | exact ob_ext fun _ _ => (e_bind _ _).trans (ob_ext fun _ _ => e_bind _ _)
theorem e_sfor (src : M (List D)) (g : D → M Unit) (body : M Fl) : sFor src g body s = ob (src s) fun ds s1 => forL g body ds s1 := by
  unfold sFor
  rw [e_bind]
  first | done | rfl | exact ob_ext fun _ _ => e_bind _ _ | exact ob_ext fun _ _ => (e_bind _ _).trans (ob_ext fun _ _ => e_bind _ _)
theorem e_for0 (g : D → M Unit) (body : M Fl) : forL g body [] s = some (.nx, s) := rfl
theorem e_for (g : D → M Unit) (body : M Fl) (d : D) (ds : List D) : forL g body (d :: ds) s = ob (g d s) fun _ s1 => ob (body s1) (lk (forL g body ds)) := by
  rw [forL, e_bind]
  refine ob_ext fun _ s1 => ?_
  rw [e_bind]
  refine ob_ext fun f s2 => ?_
  cases f <;> rfl
theorem e_wp {own : List Nat} (f : Unit → M β) : mbind (mwipe own) f s = f () (wipeE s own) := rfl
theorem e_lc (own : List Nat) (src : M (List D)) (g : D → M Unit) (t : M Bool) (elt : M O) : mLc own src g t elt s = ob (src s) fun ds s1 => ob (lcL own g t elt ds (wipeE s1 own)) fun l s2 => if l.length ≤ sizeLine then some (.lst l, s2) else none := by
  unfold mLc
  rw [e_bind]
  refine ob_ext fun ds s1 => ?_
  rw [e_wp, e_bind]
  refine ob_ext fun l s2 => ?_
  by_cases h2 : l.length ≤ sizeLine
  · rw [if_pos h2, if_pos h2]; rfl
  · rw [if_neg h2, if_neg h2]; rfl
theorem e_lcL0 (own : List Nat) (g : D → M Unit) (t : M Bool) (elt : M O) : lcL own g t elt [] s = some ([], s) := rfl
theorem e_lcL (own : List Nat) (g : D → M Unit) (t : M Bool) (elt : M O) (d : D) (ds : List D) : lcL own g t elt (d :: ds) s = ob (g d s) fun _ s1 => ob (t s1) fun k s2 =>
    ifk (fun s2 => ob (elt s2) fun o s3 => ob (lcL own g t elt ds (wipeE s3 own)) fun l s4 => some (o :: l, s4)) (fun s2 => lcL own g t elt ds (wipeE s2 own)) k s2 := by
  rw [lcL, e_bind]
  refine ob_ext fun _ s1 => ?_
  rw [e_bind]
  refine ob_ext fun k s2 => ?_
  cases k with
  | false => rw [ifk_f, if_neg (by decide), e_wp]
  | true =>
    rw [ifk_t, if_pos rfl, e_bind]
    refine ob_ext fun o s3 => ?_
    rw [e_wp, e_bind]
    rfl
theorem e_wipe0 : wipeE s [] = s := rfl
theorem e_wipe (v : Nat) (vs : List Nat) : wipeE s (v :: vs) = (wipeE s vs).set v none := rfl
theorem e_iS (m : M O) : iS m s = ob (m s) fun o s' => oo (listOfD o.toD) fun l => some (l, s') := by
  unfold iS ob oo
  cases m s with
  | none => rfl
  | some p => simp only; cases listOfD p.1.toD <;> rfl
theorem e_listT (l : List D) : listOfD (.tup l) = some l := rfl
theorem e_listL (l : List D) : listOfD (.lst l) = some l := rfl
theorem e_iR1 (m : M O) : iR1 m s = ob (m s) rg1 := by
  unfold iR1 ob
  cases m s with
  | none => rfl
  | some p =>
    obtain ⟨o, s1⟩ := p
    cases o with
    | d x => cases x <;> rfl
    | _ => rfl
theorem e_rev (m : M O) : mRev m s = ob (m s) fun o s' => match o.toD with | .lst l => some (.lst (leaf l.reverse), s') | _ => none := by
  unfold mRev ob; cases m s <;> rfl
theorem e_aval (m : M O) : aval m s = ob (m s) fun o s' => some (.val o, s') := by
  unfold aval ob; cases m s <;> rfl
theorem e_aplc (i : Nat) : aplc' i s = sl s[i]? fun _ => some (.plc i, s) := by
  unfold aplc' sl
  cases s[i]? with
  | none => rfl
  | some x => cases x <;> rfl
theorem e_mars0 : mars [] s = some ([], s) := rfl
theorem e_mars (m : M Ar) (r : List (M Ar)) : mars (m :: r) s = ob (m s) fun a s1 => ob (mars r s1) fun l s2 => some (a :: l, s2) := by
  show mbind m (fun a => mbind (mars r) fun l => mpure (a :: l)) s = _
  rw [e_bind]
  first | done | rfl | exact ob_ext fun _ _ => e_bind _ _ | exact ob_ext fun _ _ => (e_bind _ _).trans (ob_ext fun _ _ => e_bind _ _)
theorem e_take0 : takeArs [] s = some ([], s) := rfl
theorem e_takeV (o : O) (r : List Ar) : takeArs (.val o :: r) s = ob (takeArs r s) fun l s1 => some (o :: l, s1) := by
  show mbind (takeArs r) (fun l => mpure (o :: l)) s = _
  rw [e_bind]
  first | done | rfl | exact ob_ext fun _ _ => e_bind _ _ | exact ob_ext fun _ _ => (e_bind _ _).trans (ob_ext fun _ _ => e_bind _ _)
theorem e_takeP (i : Nat) (r : List Ar) : takeArs (.plc i :: r) s = sl s[i]? fun o => ob (takeArs r (s.set i none)) fun l s' => some (o :: l, s') := by
  show (match s[i]? with | some (some o) => (match takeArs r (s.set i none) with | some (l, s') => some (o :: l, s') | none => none) | _ => none) = _
  unfold sl
  cases s[i]? with
  | none => rfl
  | some x =>
    cases x with
    | none => rfl
    | some o =>
      unfold ob
      simp only
      cases takeArs r (s.set i none) <;> rfl
theorem e_give0 : giveArs [] [] s = some ((), s) := rfl
theorem e_giveV (o o' : O) (r : List Ar) (l : List O) : giveArs (.val o :: r) (o' :: l) s = giveArs r l s := rfl
theorem e_giveP (i : Nat) (o : O) (r : List Ar) (l : List O) : giveArs (.plc i :: r) (o :: l) s = ob (mset i o s) fun _ s1 => giveArs r l s1 := by
  show (if i < s.length then giveArs r l (s.set i (some o)) else none) = _
  rw [e_mset]
  by_cases h : i < s.length
  · rw [if_pos h, if_pos h]; rfl
  · rw [if_neg h, if_neg h]; rfl
theorem e_call (f : List O → Option (O × List O)) (ms : List (M Ar)) : mCall f ms s = ob (mars ms s) fun ars s1 => ob (takeArs ars s1) fun os s2 => oo (f os) fun p => ob (giveArs ars p.2 s2) fun _ s' => some (p.1, s') := by
  unfold mCall mbind ob oo
  cases mars ms s with
  | none => rfl
  | some p =>
    obtain ⟨ars, s1⟩ := p
    cases h : takeArs ars s1 with
    | none => simp only [h]
    | some q =>
      obtain ⟨os, s2⟩ := q
      simp only [h]
      cases h3 : f os with
      | none => simp only [h3]
      | some q =>
        obtain ⟨r, outs⟩ := q
        simp only [h3]
        cases giveArs ars outs s2 <;> rfl
theorem e_callM (io : List Bool) (n : Nat) (body : M Fl) (os : List O) : callM io n body os = (if os.length = io.length then ob (body (inE io os ++ List.replicate n none)) (rk fun o s => oo (outsM io os 0 s) fun outs => some (o, outs)) else none) := by
  unfold callM
  by_cases h : os.length = io.length
  · rw [if_pos h, if_pos h]
    unfold ob
    cases body (inE io os ++ List.replicate n none) with
    | none => rfl
    | some p =>
      obtain ⟨f, s⟩ := p
      cases f with
      | nx => show (match outsM io os 0 s with | some outs => some (O.d D.non, outs) | none => none) = oo _ _; unfold oo; cases outsM io os 0 s <;> rfl
      | rt o => show (match outsM io os 0 s with | some outs => some (o, outs) | none => none) = oo _ _; unfold oo; cases outsM io os 0 s <;> rfl
      | _ => rfl
  · rw [if_neg h, if_neg h]
theorem e_in0 : inE [] [] = [] := rfl
theorem e_inT (io : List Bool) (o : O) (os : List O) : inE (true :: io) (o :: os) = some o :: inE io os := rfl
theorem e_inF (io : List Bool) (o : O) (os : List O) : inE (false :: io) (o :: os) = some (.d o.toD) :: inE io os := rfl
theorem e_outs0 (j : Nat) : outsM [] [] j s = some [] := rfl
theorem e_outsT (io : List Bool) (o : O) (os : List O) (j : Nat) : outsM (true :: io) (o :: os) j s = sl s[j]? fun o' => oo (outsM io os (j + 1) s) fun l => some (o' :: l) := by
  unfold sl oo
  rw [outsM]
  cases s[j]? with
  | none => rfl
  | some x =>
    cases x with
    | none => rfl
    | some o' => simp only [if_true]; cases outsM io os (j + 1) s <;> rfl
theorem e_outsF (io : List Bool) (o : O) (os : List O) (j : Nat) : outsM (false :: io) (o :: os) j s = oo (outsM io os (j + 1) s) fun l => some (.d o.toD :: l) := by
  rw [outsM]; unfold oo; cases outsM io os (j + 1) s <;> rfl
theorem e_permF (π ρ : List Nat) (f : List O → Option (O × List O)) (os : List O) : permF π ρ f os = oo (f (permL π os)) fun p => some (p.1, permL ρ p.2) := by
  unfold permF oo; cases f (permL π os) <;> rfl
theorem e_permL0 (l : List α) : permL [] l = [] := rfl
def pcons (x : Option α) (l : List α) : List α := match x with
  | some a => a :: l
  | none => l
theorem pcons_some (a : α) (l : List α) : pcons (some a) l = a :: l := rfl
theorem e_permL (i : Nat) (π : List Nat) (l : List α) : permL (i :: π) l = pcons l[i]? (permL π l) := by
  unfold permL pcons
  rw [List.filterMap_cons]
  cases l[i]? <;> rfl
theorem e_app (i : Nat) (me : M O) : mApp i me s = al s[i]? fun _ => ob (me s) fun y s' => al s'[i]? fun os => if os.length < sizeLine then some (.d .non, s'.set i (some (.lst (os ++ [y])))) else none := by
  unfold mApp al ob
  cases s[i]? with
  | none => rfl
  | some x =>
    cases x with
    | none => rfl
    | some o =>
      cases o with
      | lst os =>
        simp only
        cases me s with
        | none => rfl
        | some p => rfl
      | _ => rfl
theorem e_msetB1 (i : Nat) (o : O) : msetB i true o s = mset i o s := rfl
theorem e_msetB0 (i : Nat) (o : O) : msetB i false o s = mset i (.d o.toD) s := rfl
theorem e_par (i : Nat) (bi : Bool) (j : Nat) (bj : Bool) (ma mb : M O) : sPar i bi j bj ma mb s = ob (ma s) fun x s1 => ob (mb s1) fun y s2 => ob (msetB i bi x s2) fun _ s3 => ob (msetB j bj y s3) fun _ s4 => some (.nx, s4) := by
  unfold sPar
  cases h1 : ma s with
  | none =>
    have hm : mArgs [ma, mb] s = none := by rw [e_args, h1]; rfl
    rw [hm]; rfl
  | some p =>
    obtain ⟨x, s1⟩ := p
    rw [ob_some]
    cases h2 : mb s1 with
    | none =>
      have hm : mArgs [ma, mb] s = none := by rw [e_args, h1, ob_some, e_args, h2]; rfl
      rw [hm]; rfl
    | some p =>
      obtain ⟨y, s2⟩ := p
      have hm : mArgs [ma, mb] s = some ([x, y], s2) := by rw [e_args, h1, ob_some, e_args, h2, ob_some, e_args0]; rfl
      rw [hm, ob_some]
      simp only
      rw [e_bind]
      exact ob_ext fun _ _ => e_bind _ _
theorem e_par3 (i : Nat) (bi : Bool) (j : Nat) (bj : Bool) (k : Nat) (bk : Bool) (ma mb mc : M O) : sPar3 i bi j bj k bk ma mb mc s = ob (ma s) fun x s1 => ob (mb s1) fun y s2 => ob (mc s2) fun z s3 => ob (msetB i bi x s3) fun _ s4 => ob (msetB j bj y s4) fun _ s5 => ob (msetB k bk z s5) fun _ s6 => some (.nx, s6) := by
  unfold sPar3
  cases h1 : ma s with
  | none =>
    have hm : mArgs [ma, mb, mc] s = none := by rw [e_args, h1]; rfl
    rw [hm]; rfl
  | some p =>
    obtain ⟨x, s1⟩ := p
    rw [ob_some]
    cases h2 : mb s1 with
    | none =>
      have hm : mArgs [ma, mb, mc] s = none := by rw [e_args, h1, ob_some, e_args, h2]; rfl
      rw [hm]; rfl
    | some p =>
      obtain ⟨y, s2⟩ := p
      rw [ob_some]
      cases h3 : mc s2 with
      | none =>
        have hm : mArgs [ma, mb, mc] s = none := by rw [e_args, h1, ob_some, e_args, h2, ob_some, e_args, h3]; rfl
        rw [hm]; rfl
      | some p =>
        obtain ⟨z, s3⟩ := p
        have hm : mArgs [ma, mb, mc] s = some ([x, y, z], s3) := by rw [e_args, h1, ob_some, e_args, h2, ob_some, e_args, h3, ob_some, e_args0]; rfl
        rw [hm, ob_some]
        simp only
        rw [e_bind]
        exact ob_ext fun _ _ => (e_bind _ _).trans (ob_ext fun _ _ => e_bind _ _)
theorem e_toD (x : D) : O.toD (.d x) = x := rfl
theorem e_toL (xs : List O) : O.toD (.lst xs) = .lst (O.toDs xs) := rfl
theorem e_toDs0 : O.toDs [] = [] := rfl
theorem e_toDs (x : O) (r : List O) : O.toDs (x :: r) = O.toD x :: O.toDs r := rfl
theorem e_fAddI (i j : Int) : fAdd (.int i) (.int j) = some (.d (.int (i + j))) := rfl
theorem e_fSubI (i j : Int) : fSub (.int i) (.int j) = some (.d (.int (i - j))) := rfl
theorem e_fMulI (i j : Int) : fMul (.int i) (.int j) = (if (sm64 i || sm64 j) = true then some (.d (.int (i * j))) else none) := rfl
theorem e_fLtI (i j : Int) : fLt (.int i) (.int j) = some (decide (i < j)) := rfl
theorem e_fLeI (i j : Int) : fLe (.int i) (.int j) = some (decide (i ≤ j)) := rfl
theorem e_fGtI (i j : Int) : fGt (.int i) (.int j) = some (decide (j < i)) := rfl
theorem e_fGeI (i j : Int) : fGe (.int i) (.int j) = some (decide (j ≤ i)) := rfl
theorem e_fEqI (i j : Int) : fEq (.int i) (.int j) = some (decide (i = j)) := by
  have : fEq (.int i) (.int j) = some (i == j) := rfl
  rw [this]
  congr 1
theorem e_fEqS (x y : Str) : fEq (.str x) (.str y) = some (decide (x = y)) := rfl
theorem e_fEqB (x y : Bool) : fEq (.bl x) (.bl y) = some (decide (x = y)) := by cases x <;> cases y <;> rfl
theorem e_fNe (a b : D) : fNe a b = oo (fEq a b) fun k => some (!k) := by
  unfold fNe oo; cases fEq a b <;> rfl
theorem e_fNotIn (a b : D) : fNotIn a b = oo (fIn a b) fun k => some (!k) := by
  unfold fNotIn oo; cases fIn a b <;> rfl
theorem e_fIsN (a b : D) : fIsN a b = oo (fIs a b) fun k => some (!k) := by
  unfold fIsN oo; cases fIs a b <;> rfl
theorem e_fLenL (l : List D) : fLen (.lst l) = some (.d (.int l.length)) := rfl
theorem e_fLenT (l : List D) : fLen (.tup l) = some (.d (.int l.length)) := rfl
theorem e_fListL (l : List D) : fList (.lst l) = some (.lst (leaf l)) := rfl
theorem e_fListT (l : List D) : fList (.tup l) = some (.lst (leaf l)) := rfl
theorem e_fTupL (l : List D) : fTuple (.lst l) = some (.d (.tup l)) := rfl
theorem e_fTupT (l : List D) : fTuple (.tup l) = some (.d (.tup l)) := rfl
theorem e_fMin (i j : Int) : fMin2 (.int i) (.int j) = some (.d (.int (if j < i then j else i))) := rfl
theorem e_fMax (i j : Int) : fMax2 (.int i) (.int j) = some (.d (.int (if j > i then j else i))) := rfl
theorem e_fNegI (i : Int) : fNeg (.int i) = some (.d (.int (-i))) := rfl
theorem e_ifp {c : Prop} [Decidable c] {x y : α} (h : c) : (if c then x else y) = x := if_pos h
/-- a comprehension whose parts leave the environment as it was -/
theorem x_lcT {δ : Type} {emb : δ → D} {own : List Nat} {g : D → M Unit} {t : M Bool} {elt : M O} {s0 : Env} {f : δ → Bool} {h : δ → O} : ∀ (xs : List δ), (∀ x ∈ xs, ∃ s1, g (emb x) s0 = some ((), s1) ∧ t s1 = some (f x, s1) ∧ (f x = true → elt s1 = some (h x, s1)) ∧ wipeE s1 own = s0) →
    lcL own g t elt (xs.map emb) s0 = some ((xs.filter f).map h, s0)
  | [], _ => rfl
  | x :: xs, k => by
    obtain ⟨s1, h1, h2, h3, h4⟩ := k x List.mem_cons_self
    have ih := x_lcT (emb := emb) (f := f) (h := h) xs fun y hy => k y (List.mem_cons_of_mem _ hy)
    rw [List.map_cons, e_lcL, h1, ob_some, h2, ob_some]
    cases e : f x with
    | true =>
      rw [ifk_t, h3 e, ob_some, h4, ih, ob_some, List.filter_cons_of_pos e, List.map_cons]
    | false =>
      rw [ifk_f, h4, ih, List.filter_cons_of_neg (by rw [e]; decide : ¬ f x = true)]
end
end BM
set_option Elab.async false
set_option linter.all false
set_option maxRecDepth 100000
set_option maxHeartbeats 4000000
namespace BM
open PySem PySem.Spec PyProof.Rows L2
variable [Tb]
section
variable {s : Env} {α β γ : Type}
def fldK (C : Addr) (f : Str) (o : O) (s : Env) : Option (O × Env) := mFld C f (mpure o) s
theorem e_fld (C : Addr) (f : Str) (m : M O) : mFld C f m s = ob (m s) (fldK C f) := by
  unfold mFld ob fldK mFld mpure
  cases m s <;> rfl
def objK (C : Addr) (f : Str) (o : O) (s : Env) : Option (O × Env) := mObj C f (mpure o) s
theorem e_obj (C : Addr) (f : Str) (m : M O) : mObj C f m s = ob (m s) (objK C f) := by
  unfold mObj ob objK mObj mpure
  cases m s <;> rfl
def mkK (ars : List Ar) (s : Env) : O × List O → Option (O × Env)
  | (.d .non, o :: outs) => ob (giveArs ars outs s) fun _ s' => some (o, s')
  | _ => none
theorem mkK_ok (ars : List Ar) (o : O) (outs : List O) : mkK ars s (.d .non, o :: outs) = ob (giveArs ars outs s) fun _ s' => some (o, s') := rfl
theorem e_make (C : Addr) (f : List O → Option (O × List O)) (ms : List (M Ar)) : mMake C f ms s = ob (mars ms s) fun ars s1 => ob (takeArs ars s1) fun os s2 => oo (f (.obj C [] [] :: os)) (mkK ars s2) := by
  unfold mMake
  rw [e_bind]
  refine ob_ext fun ars s1 => ?_
  rw [e_bind]
  refine ob_ext fun os s2 => ?_
  unfold oo
  cases f (.obj C [] [] :: os) with
  | none => rfl
  | some p =>
    obtain ⟨r, outs⟩ := p
    cases r with
    | d x =>
      cases x with
      | non =>
        cases outs with
        | nil => rfl
        | cons o outs => show (match giveArs ars outs s2 with | some (_, s') => some (o, s') | none => none) = ob _ _; unfold ob; cases giveArs ars outs s2 <;> rfl
      | _ => rfl
    | _ => rfl
theorem e_enA (m : M O) : iEnA m s = ob (m s) fun o s' => oo (listOfD o.toD) fun l => some (enumD l, s') := by
  unfold iEnA ob oo
  cases m s with
  | none => rfl
  | some p => simp only; cases listOfD p.1.toD <;> rfl
theorem e_rv (m : M O) : iRv m s = ob (m s) fun o s' => oo (listOfD o.toD) fun l => some (l.reverse, s') := by
  unfold iRv ob oo
  cases m s with
  | none => rfl
  | some p => simp only; cases listOfD p.1.toD <;> rfl
theorem e_dctS (ks : List Str) (ms : List (M O)) : mDctS ks ms s = ob (mArgs ms s) fun os s1 => some (.dct (ks.map D.str) os, s1) := by
  unfold mDctS ob
  cases mArgs ms s <;> rfl
theorem x_lcE {own : List Nat} {g : D → M Unit} {t : M Bool} {elt : M O} {P : Nat → Env → Prop} {R : D → O → Prop} : ∀ (ds : List D) (n : Nat) (s0 : Env), P n s0 →
    (∀ j d s, ds[j]? = some d → P (n + j) s → ∃ s1 s2 o, g d s = some ((), s1) ∧ t s1 = some (true, s1) ∧ elt s1 = some (o, s2) ∧ R d o ∧ P (n + j + 1) (wipeE s2 own)) →
    ∃ os s', lcL own g t elt ds s0 = some (os, s') ∧ P (n + ds.length) s' ∧ os.length = ds.length ∧ ∀ p ∈ ds.zip os, R p.1 p.2
  | [], n, s0, p, _ => ⟨[], s0, rfl, p, rfl, fun q hq => by cases hq⟩
  | d :: ds, n, s0, p, h => by
    obtain ⟨s1, s2, o, h1, h2, h3, h4, h5⟩ := h 0 d s0 rfl p
    obtain ⟨os, s', g1, g2, g3, g4⟩ := x_lcE ds (n + 1) _ h5 fun j e s he hp => by
      have z := h (j + 1) e s he (by rw [show n + (j + 1) = n + 1 + j by omega]; exact hp)
      rw [show n + (j + 1) + 1 = n + 1 + j + 1 by omega] at z
      exact z
    refine ⟨o :: os, s', ?_, by rw [List.length_cons, show n + (ds.length + 1) = n + 1 + ds.length by omega]; exact g2, by rw [List.length_cons, List.length_cons, g3], fun q hq => ?_⟩
    · rw [e_lcL, h1, ob_some, h2, ob_some, ifk_t, h3, ob_some, g1, ob_some]
    · rcases List.mem_cons.mp hq with rfl | hq
      · exact h4
      · exact g4 q hq
theorem sm_of {i : Int} (h1 : -(2 ^ 64) < i) (h2 : i < 2 ^ 64) : sm64 i = true := by
  unfold sm64; rw [decide_eq_true h1, decide_eq_true h2]; rfl
theorem sm_mod {a b : Int} (h : 0 < b) (h2 : b < 2 ^ 64) : sm64 (a % b) = true :=
  sm_of (by have := Int.emod_nonneg a (by omega : b ≠ 0); omega) (by have := Int.emod_lt_of_pos a h; omega)
theorem fMul_l {i j : Int} (h : sm64 i = true) : fMul (.int i) (.int j) = some (.d (.int (i * j))) := by
  rw [e_fMulI, h, Bool.true_or, if_pos rfl]
theorem fMul_r {i j : Int} (h : sm64 j = true) : fMul (.int i) (.int j) = some (.d (.int (i * j))) := by
  rw [e_fMulI, h, Bool.or_true, if_pos rfl]
theorem fMod_p {i j : Int} (h : 0 < j) : fMod (.int i) (.int j) = some (.d (.int (i % j))) := by
  unfold fMod; simp only [if_pos h]
theorem fDiv_p {i j : Int} (h : 0 < j ∧ j < 1073741824) : fDiv (.int i) (.int j) = some (.d (.int (i / j))) := by
  unfold fDiv; simp only [if_pos h]
theorem fIx_s {x : Str} {i : Nat} {c : Nat} (hz : x.length ≤ sizeLine) (h : x.cps.toList[i]? = some c) : fIx (.str x) (.int i) = some (.d (.str ⟨#[c]⟩)) := by
  have hi : i < x.cps.toList.length := (List.getElem?_eq_some_iff.mp h).1
  have e : ixN x.cps.toList.length (i : Int) = some i := by
    unfold ixN
    rw [if_pos (by omega), if_pos (by omega)]
    simp
  unfold fIx
  simp only [if_pos hz, e, h]
theorem ixN_nat {n i : Nat} (h : i < n) : ixN n (i : Int) = some i := by
  unfold ixN
  rw [if_pos (by omega), if_pos (by omega)]
  simp
theorem fIx_l {l : List D} {i : Nat} {d : D} (h : l[i]? = some d) : fIx (.lst l) (.int i) = some (.d d) := by
  unfold fIx
  simp only [ixN_nat (List.getElem?_eq_some_iff.mp h).1, h]
theorem fIx_t {l : List D} {i : Nat} {d : D} (h : l[i]? = some d) : fIx (.tup l) (.int i) = some (.d d) := by
  unfold fIx
  simp only [ixN_nat (List.getElem?_eq_some_iff.mp h).1, h]
theorem leaf_len (l : List D) : (leaf l).length = l.length := List.length_map ..
end
end BM
set_option Elab.async false
set_option linter.all false
set_option maxRecDepth 100000
set_option maxHeartbeats 4000000
namespace BM
open PySem PySem.Spec PyProof.Rows L2
variable [Tb]
def lrg1 : O → Env → Option (O × Env)
  | .d (.int n), s => if -(2 ^ 62) ≤ n ∧ n ≤ 16777216 then some (.lst (leaf (upto 0 n.toNat)), s) else none
  | _, _ => none
def mLrg (m : M O) : M O := fun s => match m s with
  | some (o, s') => lrg1 o s'
  | none => none
theorem e_lrg (m : M O) (s : Env) : mLrg m s = ob (m s) lrg1 := by
  unfold mLrg ob
  cases m s with
  | none => rfl
  | some p => rfl
end BM
set_option Elab.async false
set_option linter.all false
set_option maxRecDepth 100000
set_option maxHeartbeats 4000000
namespace BM
open PySem PySem.Spec PyProof.Rows L2
variable [Tb]
/-- plain values -/
def flX : D → Bool
  | .non => true
  | .bl _ => true
  | .int i => decide (i.natAbs.log2 < 1920)
  | .str x => PyData.strOk x
  | _ => false
def pyF : D → PyData
  | .bl b => .bool b
  | .int i => .int i
  | .str x => .str x
  | _ => .none
def wtF : D → Nat
  | .non => 4
  | .bl _ => 5
  | .int i => if 0 ≤ i ∧ i < 10 ^ 10 then 10 else 1921
  | .str x => 10 * x.length + 2
  | _ => 0
mutual
def wtX : D → Nat
  | .non => 4
  | .bl _ => 5
  | .int i => if 0 ≤ i ∧ i < 10 ^ 10 then 10 else 1921
  | .str x => 10 * x.length + 2
  | .tup l => wtXs l + 3
  | .lst l => wtXs l + 3
  | .dct l => (l.map fun q => wtF q.1 + wtF q.2 + 4).sum + 3
  | _ => 0
def wtXs : List D → Nat
  | [] => 0
  | x :: r => wtX x + 2 + wtXs r
end
mutual
def dpX : D → Nat
  | .tup l => dpXs l + 1
  | .lst l => dpXs l + 1
  | .dct _ => 1
  | _ => 0
def dpXs : List D → Nat
  | [] => 0
  | x :: r => max (dpX x) (dpXs r)
end
theorem flX_len : ∀ {d : D}, flX d = true → (pyF d).shown.length ≤ wtF d ∧ (pyF d).depth = 0 ∧ (pyF d).showable = true
  | .non, _ => by simp only [pyF, wtF, PyData.shown, PyData.depth, PyData.showable]; decide
  | .bl b, _ => by cases b <;> (simp only [pyF, wtF, PyData.shown, PyData.depth, PyData.showable]; decide)
  | .int i, h => by
    unfold flX at h
    refine ⟨?_, by simp [pyF, PyData.depth], by simp only [pyF, PyData.showable]; exact h⟩
    simp only [pyF, wtF, PyData.shown]
    by_cases h2 : 0 ≤ i ∧ i < 10 ^ 10
    · rw [if_pos h2]; exact toString_length_le h2.1 (by decide) h2.2
    · rw [if_neg h2]; exact int_text_len_1921 (of_decide_eq_true h)
  | .str x, h => by
    unfold flX at h
    refine ⟨?_, by simp [pyF, PyData.depth], by simp [pyF, PyData.showable]⟩
    have := shown_len (p := .str x) (by simpa [PyData.canLay0] using h)
    simpa [pyF, wtF, sz] using this
  | .tup _, h => by cases h
  | .lst _, h => by cases h
  | .dct _, h => by cases h
  | .obj _ _ _, h => by cases h
section
variable {X : Cx} {pins : List (Addr × Obj)} {σ : L2.St} {H : Hp} {s : Shared}
theorem showF {bs : List Addr} {n : Nat} : ∀ {d : D} {v : V} {u : Value}, flX d = true → wtF d ≤ sizeLine → Rep X.K H d v → RelV v u → Reads s.heap u (pyF d) [] ∧ ReprK X.prog X.w bs s.heap n u (pyF d).shown
  | .non, v, u, _, _, r, e => by
    rw [Rep] at r; subst r
    cases (show u = Value.none from e)
    exact ⟨.none, by simp only [pyF, PyData.shown]; exact .of_is ReprIs.none _ _ _⟩
  | .bl b, v, u, _, _, r, e => by
    rw [Rep] at r; subst r
    cases (show u = Value.bool b from e)
    exact ⟨.bool b, by simp only [pyF, PyData.shown]; exact .of_is (ReprIs.bool b) _ _ _⟩
  | .int i, v, u, h, _, r, e => by
    rw [Rep] at r; subst r
    obtain ⟨t, rfl⟩ := (show ∃ t, u = Value.int i t from e)
    exact ⟨.int i t, by simp only [pyF, PyData.shown]; exact .of_is (ReprIs.int t (of_decide_eq_true h)) _ _ _⟩
  | .str x, v, u, h, hz, r, e => by
    rw [Rep] at r; subst r
    obtain ⟨t, rfl⟩ := (show ∃ t, u = Value.str x t from e)
    exact ⟨.str x t, by
      have z : (PyData.str x).shown.length ≤ sizeLine := Nat.le_trans (flX_len (d := .str x) h).1 hz
      simp only [pyF, PyData.shown]
      exact .of_is (ReprIs.str x t (by simpa only [PyData.shown] using z)) _ _ _⟩
  | .tup _, _, _, h, _, _, _ => by cases h
  | .lst _, _, _, h, _, _, _ => by cases h
  | .dct _, _, _, h, _, _, _ => by cases h
  | .obj _ _ _, _, _, h, _, _, _ => by cases h
end
end BM
set_option Elab.async false
set_option linter.all false
set_option maxRecDepth 100000
set_option maxHeartbeats 4000000
namespace BM
open PySem PySem.Spec PyProof.Rows L2
variable [Tb]
def tyN : D → Option String
  | .non => some "NoneType"
  | .bl _ => some "bool"
  | .int _ => some "int"
  | .str _ => some "str"
  | .tup _ => some "tuple"
  | .lst _ => some "list"
  | .dct _ => some "dict"
  | .obj _ _ _ => none
def fIsTy (n : String) (d : D) : Option O := match tyN d with
  | some t => (match kitB t n with
    | some b => some (.d (.bl b))
    | none => none)
  | none => none
theorem rd_tyL {K : PySem.W.Frag} {H : Hp} {a : Addr} {xs : List V} (h : SqL K H a xs) : TyX K H (.ref a) (.type "list") := by
  rcases h with (h | ⟨o, h⟩) | ⟨o, its, n, h1, h2, _⟩
  · exact .base (.lst h)
  · exact .base (.frz h)
  · exact .kList h1 h2
theorem rd_tyT {K : PySem.W.Frag} {H : Hp} {a : Addr} {xs : List V} (h : SqT K H a xs) : TyX K H (.ref a) (.type "tuple") := by
  rcases h with (h | ⟨o, h⟩) | ⟨o, its, n, h1, h2, _⟩
  · exact .base (.tup h)
  · exact .fTuple h
  · exact .kTuple h1 h2
theorem rep_ty {K : PySem.W.Frag} {H : Hp} : ∀ {d : D} {v : V} {t : String}, Rep K H d v → tyN d = some t → TyX K H v (.type t)
  | .non, v, t, r, e => by rw [Rep] at r; subst r; cases e; exact .base .non
  | .bl b, v, t, r, e => by rw [Rep] at r; subst r; cases e; exact .base (.bl b)
  | .int i, v, t, r, e => by rw [Rep] at r; subst r; cases e; exact .base (.int i)
  | .str x, v, t, r, e => by rw [Rep] at r; subst r; cases e; exact .base (.str x)
  | .tup l, v, t, r, e => by
    rw [Rep] at r; obtain ⟨a, vs, e1, h1, _⟩ := r; subst e1; cases e; exact rd_tyT h1
  | .lst l, v, t, r, e => by
    rw [Rep] at r; obtain ⟨a, vs, e1, h1, _⟩ := r; subst e1; cases e; exact rd_tyL h1
  | .dct l, v, t, r, e => by
    rw [Rep] at r; obtain ⟨a, kvs, e1, h1, _⟩ := r; subst e1; cases e
    rcases h1 with h | ⟨o, h⟩
    · exact .base (.dK h)
    · exact .fDict h
  | .obj _ _ _, v, t, r, e => by cases e
def mIsi (n : String) (m : M O) : M O := fun s => match m s with
  | some (o, s') => (match fIsTy n o.toD with
    | some r => some (r, s')
    | none => none)
  | none => none
theorem e_isi (n : String) (m : M O) (s : Env) : mIsi n m s = ob (m s) fun o s' => oo (fIsTy n o.toD) fun r => some (r, s') := by
  unfold mIsi ob oo
  cases m s with
  | none => rfl
  | some p => simp only; cases fIsTy n p.1.toD <;> rfl
section
variable {Γ : Gm} {e : Expr} {p1 p2 pos : Pos} {m : M O} {c : Str} {n : String}
theorem sd_isi (h : Sd Γ e m) (hg1 : Γ.glo "isinstance" = true) (hm1 : Γ.cfg.mg "isinstance" = none) (hg2 : Γ.glo c = true) (hm2 : Γ.cfg.mg c = none) (hb : bootBuiltins c = some (.type n)) (hn : c ≠ "__name__" := by decide) (hd : (c == ("__debug__" : Str)) = false := by decide)
    (ne : ∀ env : PySem.Env, starEach [e, .Name c p2] env = (false, eval e env) :: starEach [.Name c p2] env := by intro _; rfl) :
    Sd Γ (.Call (.Name "isinstance" p1) [e, .Name c p2] [] pos) (mIsi n m) := ⟨fun X ok env o env' hm' σ H T hr Q q => by
  unfold mIsi at hm'
  split at hm'
  · rename_i o1 s1 h1
    split at hm'
    · rename_i r1 h2
      have e1 := Option.some.inj hm'
      injection e1 with e1 e2
      subst e1 e2
      unfold fIsTy at h2
      split at h2
      · rename_i t ht
        split at h2
        · rename_i b hb2
          have e3 := Option.some.inj h2
          subst e3
          refine ⟨_, pe_callB call_isi (ok.glo hg1) (by rw [ok.hmg]; exact hm1) PyProof.Rows.boot_isinstance (pa_cons (pe_best X e) (pa_cons (pe_bltn (v := .ty n) (ok.glo hg2) (by rw [ok.hmg]; exact hm2) hb rfl hn hd) pa_nil) (ne X.env)) (by decide) (by decide) (ne X.env), ?_⟩
          refine h.run X ok env o1 s1 h1 σ H T hr _ fun v H1 r => ?_
          have r := r.freeze
          obtain ⟨L, hE, hS⟩ := id r
          have lk : Look (.rep (.d o1.toD) v :: (T ++ L)) o1.toD v := ⟨.d o1.toD, List.mem_cons_self, rfl⟩
          have rr := lk.rep hS
          refine ⟨v, .ty n, .type t, .type n, b, rfl, .ty n, by rw [ok.hK]; exact rep_ty rr ht, kit_ty hb2, q _ H1 ⟨L, hE, ?_⟩⟩
          exact hS.drop.flat rfl
        · cases h2
      · cases h2
    · cases hm'
  · cases hm'⟩
end
theorem ty_str : kitB "str" "str" = some true := by decide +kernel
theorem isi_str : ∀ d : D, (∀ C ns xs, d ≠ .obj C ns xs) → fIsTy "str" d = some (.d (.bl (match d with | .str _ => true | _ => false)))
  | .non, _ => by simp only [fIsTy, tyN, show kitB "NoneType" "str" = some false by decide +kernel]
  | .bl _, _ => by simp only [fIsTy, tyN, show kitB "bool" "str" = some false by decide +kernel]
  | .int _, _ => by simp only [fIsTy, tyN, show kitB "int" "str" = some false by decide +kernel]
  | .str _, _ => by simp only [fIsTy, tyN, show kitB "str" "str" = some true by decide +kernel]
  | .tup _, _ => by simp only [fIsTy, tyN, show kitB "tuple" "str" = some false by decide +kernel]
  | .lst _, _ => by simp only [fIsTy, tyN, show kitB "list" "str" = some false by decide +kernel]
  | .dct _, _ => by simp only [fIsTy, tyN, show kitB "dict" "str" = some false by decide +kernel]
  | .obj _ _ _, h => absurd rfl (h _ _ _)
theorem isi_tup : ∀ d : D, (∀ C ns xs, d ≠ .obj C ns xs) → fIsTy "tuple" d = some (.d (.bl (match d with | .tup _ => true | _ => false)))
  | .non, _ => by simp only [fIsTy, tyN, show kitB "NoneType" "tuple" = some false by decide +kernel]
  | .bl _, _ => by simp only [fIsTy, tyN, show kitB "bool" "tuple" = some false by decide +kernel]
  | .int _, _ => by simp only [fIsTy, tyN, show kitB "int" "tuple" = some false by decide +kernel]
  | .str _, _ => by simp only [fIsTy, tyN, show kitB "str" "tuple" = some false by decide +kernel]
  | .tup _, _ => by simp only [fIsTy, tyN, show kitB "tuple" "tuple" = some true by decide +kernel]
  | .lst _, _ => by simp only [fIsTy, tyN, show kitB "list" "tuple" = some false by decide +kernel]
  | .dct _, _ => by simp only [fIsTy, tyN, show kitB "dict" "tuple" = some false by decide +kernel]
  | .obj _ _ _, h => absurd rfl (h _ _ _)
end BM
set_option Elab.async false
set_option linter.all false
set_option maxRecDepth 100000
set_option maxHeartbeats 4000000
namespace BM
open PySem PySem.Spec PyProof.Rows L2
variable [Tb]
def fUpper : D → Option O
  | .str x => if x.length ≤ 5592405 then some (.d (.str (Txt.upper x))) else none
  | _ => none
def mUpper (m : M O) : M O := fun s => match m s with
  | some (o, s') => (match fUpper o.toD with
    | some r => some (r, s')
    | none => none)
  | none => none
theorem e_upper (m : M O) (s : Env) : mUpper m s = ob (m s) fun o s' => oo (fUpper o.toD) fun r => some (r, s') := by
  unfold mUpper ob oo
  cases m s with
  | none => rfl
  | some p => simp only; cases fUpper p.1.toD <;> rfl
def fJoin (sep : Str) : D → Option O
  | .lst l => if l.all isTxD = true ∧ ((l.map strD).map (·.length)).sum + l.length * sep.length ≤ 16777216 then some (.d (.str (Txt.join sep (l.map strD)))) else none
  | .tup l => if l.all isTxD = true ∧ ((l.map strD).map (·.length)).sum + l.length * sep.length ≤ 16777216 then some (.d (.str (Txt.join sep (l.map strD)))) else none
  | _ => none
def mJoin (sep : Str) (m : M O) : M O := fun s => match m s with
  | some (o, s') => (match fJoin sep o.toD with
    | some r => some (r, s')
    | none => none)
  | none => none
theorem e_join (sep : Str) (m : M O) (s : Env) : mJoin sep m s = ob (m s) fun o s' => oo (fJoin sep o.toD) fun r => some (r, s') := by
  unfold mJoin ob oo
  cases m s with
  | none => rfl
  | some p => simp only; cases fJoin sep p.1.toD <;> rfl
end BM
set_option Elab.async false
set_option linter.all false
set_option maxRecDepth 100000
set_option maxHeartbeats 4000000
namespace BM
open PySem PySem.Spec PyProof.Rows L2
end BM
set_option Elab.async false
set_option linter.all false
set_option maxRecDepth 100000
set_option maxHeartbeats 4000000
namespace BM
open PySem PySem.Spec PyProof.Rows L2
variable [Tb]
def asc (x : Str) : Bool := x.cps.toList.all (· < 128)
theorem asc_cut {x : Str} (lo hi : Option Int) (h : asc x = true) : asc (cutS x lo hi) = true ∧ (cutS x lo hi).length ≤ x.length := by
  unfold asc at *
  constructor
  · rw [List.all_eq_true] at *
    intro c hc
    refine h c ?_
    have hc : c ∈ ((x.cps.toList.drop (HT.sIx x.length 0 lo)).take (HT.sIx x.length x.length hi - HT.sIx x.length 0 lo)) := by
      simpa [cutS] using hc
    exact List.mem_of_mem_drop (List.mem_of_mem_take hc)
  · show (((x.cps.toList.drop _).take _).toArray).size ≤ x.cps.size
    rw [List.size_toArray, List.length_take, List.length_drop, Array.length_toList]
    omega
theorem up_tab : ((List.range 128).all fun c => match Unicode.upperOf c with
  | [d] => decide (d < 128)
  | _ => false) = true := by decide +kernel
theorem up_one {c : Nat} (h : c < 128) : ∃ d, Unicode.upperOf c = [d] ∧ d < 128 := by
  have z := List.all_eq_true.mp up_tab c (List.mem_range.mpr h)
  split at z
  · rename_i d e
    exact ⟨d, e, of_decide_eq_true z⟩
  · cases z
theorem up_list : ∀ l : List Nat, (∀ c ∈ l, c < 128) → (∀ y ∈ (l.map fun c => Unicode.upperOf c).flatten, y < 128) ∧ ((l.map fun c => Unicode.upperOf c).flatten).length = l.length
  | [], _ => ⟨fun y h => by simp at h, rfl⟩
  | c :: l, h => by
    obtain ⟨d, e, hd⟩ := up_one (h c List.mem_cons_self)
    obtain ⟨i1, i2⟩ := up_list l fun x hx => h x (List.mem_cons_of_mem _ hx)
    rw [List.map_cons, List.flatten_cons, e]
    refine ⟨fun y hy => ?_, by rw [List.length_append, i2]; simp; omega⟩
    rcases List.mem_append.mp hy with hy | hy
    · rw [List.mem_singleton.mp hy]; exact hd
    · exact i1 y hy
theorem up_cps (x : Str) : (Txt.upper x).cps.toList = (x.cps.toList.map fun c => Unicode.upperOf c).flatten := by
  show (placed x fun _ c => Unicode.upperOf c).toList = _
  unfold placed
  rw [Array.toList_flatten, Array.toList_mapIdx]
  congr 1
  exact List.ext_getElem (by simp) fun i h1 h2 => by simp
theorem asc_up {x : Str} (h : asc x = true) : asc (Txt.upper x) = true ∧ (Txt.upper x).length = x.length := by
  unfold asc at *
  rw [List.all_eq_true] at h
  obtain ⟨h1, h2⟩ := up_list x.cps.toList fun c hc => of_decide_eq_true (h c hc)
  constructor
  · rw [up_cps, List.all_eq_true]
    intro y hy
    exact decide_eq_true (h1 y hy)
  · show (Txt.upper x).cps.size = x.cps.size
    rw [← Array.length_toList, up_cps, h2, Array.length_toList]
theorem asc_ok {x : Str} (h : asc x = true) : PyData.strOk x = true := by
  unfold asc at h
  unfold PyData.strOk
  rw [Array.all_eq_true']
  rw [List.all_eq_true] at h
  intro c hc
  have := of_decide_eq_true (h c (by simpa using hc))
  exact decide_eq_true (by omega)
mutual
def okA (g : Nat) : D → Bool
  | .non => true
  | .bl _ => true
  | .int i => decide (i.natAbs ≤ 10 ^ 40 + g)
  | .str x => asc x
  | .tup l => okAs g l
  | .lst l => okAs g l
  | .dct l => l.isEmpty
  | .obj _ _ _ => false
def okAs (g : Nat) : List D → Bool
  | [] => true
  | x :: r => okA g x && okAs g r
end
mutual
theorem okA_mono {g g' : Nat} (hg : g ≤ g') : ∀ {d : D}, okA g d = true → okA g' d = true
  | .non, _ => by rw [okA]
  | .bl _, _ => by rw [okA]
  | .int i, h => by rw [okA] at *; exact decide_eq_true (Nat.le_trans (of_decide_eq_true h) (by omega))
  | .str x, h => by rw [okA] at *; exact h
  | .tup l, h => by rw [okA] at *; exact okAs_mono hg h
  | .lst l, h => by rw [okA] at *; exact okAs_mono hg h
  | .dct l, h => by rw [okA] at *; exact h
  | .obj _ _ _, h => by simp [okA] at h
theorem okAs_mono {g g' : Nat} (hg : g ≤ g') : ∀ {l : List D}, okAs g l = true → okAs g' l = true
  | [], _ => by rw [okAs]
  | x :: r, h => by
    rw [okAs, Bool.and_eq_true] at *
    exact ⟨okA_mono hg h.1, okAs_mono hg h.2⟩
end
end BM
set_option Elab.async false
set_option linter.all false
set_option maxRecDepth 100000
set_option maxHeartbeats 4000000
namespace BM
open PySem PySem.Spec PyProof.Rows L2
variable [Tb]
def mRevX (m : M O) : M O := fun s => match m s with
  | some (o, s') => (match o.toD with
    | .lst l => some (.lst (leaf l.reverse), s')
    | .tup l => some (.d (.tup l.reverse), s')
    | _ => none)
  | none => none
def revX : O → Env → Option (O × Env)
  | o, s => match o.toD with
    | .lst l => some (.lst (leaf l.reverse), s)
    | .tup l => some (.d (.tup l.reverse), s)
    | _ => none
theorem e_revX (m : M O) (s : Env) : mRevX m s = ob (m s) revX := by
  unfold mRevX ob
  cases m s with
  | none => rfl
  | some p => rfl
theorem revX_t (l : List D) (s : Env) : revX (.d (.tup l)) s = some (.d (.tup l.reverse), s) := rfl
end BM
set_option Elab.async false
set_option linter.all false
set_option maxRecDepth 100000
set_option maxHeartbeats 4000000
namespace PySem
open Sem (wp)
/-- an iterator over a list (false) or a tuple (true), and what it walks -/
def BMIter (h : Heap) (k : Bool) (it l : Addr) (i : Nat) : Prop := match k with
  | true => h.IsTupleIter it l i
  | false => h.IsListIter it l i
def BMSeq (h : Heap) (k : Bool) (l : Addr) (xs : Array Value) : Prop := match k with
  | true => h.IsTuple l xs
  | false => h.IsList l xs
theorem BMIter.at {h h' : Heap} {k : Bool} {a l i} (x : BMIter h k a l i) (e : ∀ o, h.get? a = some o → h'.get? a = some o) : BMIter h' k a l i := by
  cases k
  · exact Heap.IsListIter.at x e
  · exact Heap.IsTupleIter.at x e
theorem BMIter.extBut {h h' : Heap} {k : Bool} {a b l i} (x : BMIter h k a l i) (hs : Heap.ExtBut b h h') (hab : a ≠ b) : BMIter h' k a l i := by
  cases k
  · exact Heap.IsListIter.extBut x hs hab
  · exact Heap.IsTupleIter.extBut x hs hab
theorem BMSeq.at {h h' : Heap} {k : Bool} {a xs} (x : BMSeq h k a xs) (e : ∀ o, h.get? a = some o → h'.get? a = some o) : BMSeq h' k a xs := by
  cases k
  · exact Heap.IsList.at x e
  · exact Heap.IsTuple.at x e
theorem BMSeq.extBut {h h' : Heap} {k : Bool} {a b xs} (x : BMSeq h k a xs) (hs : Heap.ExtBut b h h') (hab : a ≠ b) : BMSeq h' k a xs := by
  cases k
  · exact Heap.IsList.extBut x hs hab
  · exact Heap.IsTuple.extBut x hs hab
theorem BMIter.ex {h : Heap} {k : Bool} {a l i} (x : BMIter h k a l i) : ∃ o, h.get? a = some o ∧ ∃ fs, o.data = .fields fs := by
  cases k
  · obtain ⟨o, h1, h2, h3⟩ := x
    exact ⟨o, h1, _, h3⟩
  · obtain ⟨o, h1, h2, h3⟩ := x
    exact ⟨o, h1, _, h3⟩
theorem BMSeq.ex {h : Heap} {k : Bool} {a xs} (x : BMSeq h k a xs) : ∃ o, h.get? a = some o := by
  cases k
  · obtain ⟨o, h1, _⟩ := x
    exact ⟨o, h1⟩
  · obtain ⟨o, h1, _⟩ := x
    exact ⟨o, h1⟩
abbrev BMitObj (k : Bool) (l : Addr) : Obj := { cls := .type (match k with | true => "tuple_iterator" | false => "list_iterator"), data := .fields #[.ref l, .int 0 0] }
theorem BMbegins (k : Bool) (l : Addr) (xs : Array Value) : Begins (.ref l) (BMitObj k l) fun h => BMSeq h k l xs := by
  cases k
  · exact begins_list l xs
  · exact begins_tuple l xs
theorem BMIter.of {h : Heap} {k : Bool} {it l : Addr} (e : h.get? it = some (BMitObj k l)) : BMIter h k it l 0 := by
  cases k
  · exact ⟨_, e, rfl, rfl⟩
  · exact ⟨_, e, rfl, rfl⟩
abbrev BMZip (h : Heap) (z TI TO : Addr) (f0 : Value) : Prop :=
  h.get? z = some { cls := .type "zip", dict := none, data := .fields #[f0, .bool false, .bool true, .ref TI, .ref TO], slots := #[] }
section
variable {prog : Program} {w : World} {A : Around} {E : Value → Shared → Prop} {s : Shared}
theorem BMnx_item {k : Bool} {it l : Addr} {i : Nat} {items : Array Value} {x : Value} {Q : Value → Shared → Prop} (hit : BMIter s.heap k it l i)
    (hl : BMSeq s.heap k l items) (hx : items[i]? = some x)
    (hQ : ∀ h', BMIter h' k it l (i + 1) → Heap.SameBut it s.heap h' → Q x { s with heap := h' }) :
    wpAny (model prog w) A (Builtin.SmallTypes.nextOf (.ref it)) Q E s := by
  cases k
  · exact wpAny_nextOf_list_item hit hl hx hQ
  · exact RZ.nextOf_tuple_item hit hl hx hQ
theorem BMnx_end {k : Bool} {it l : Addr} {i : Nat} {items : Array Value} {Q : Value → Shared → Prop} (hh : A.handled = none)
    (hit : BMIter s.heap k it l i) (hl : BMSeq s.heap k l items) (hx : items[i]? = none)
    (hE : ∀ h' e, Heap.ExtBut it s.heap h' → (∃ o, h'.get? e = some o ∧ o.cls = .type "StopIteration") → E (.ref e) { s with heap := h' }) :
    wpAny (model prog w) A (Builtin.SmallTypes.nextOf (.ref it)) Q E s := by
  cases k
  · exact wpAny_nextOf_list_end hh hit hl hx hE
  · exact RZ.nextOf_tuple_end hh hit hl hx hE
theorem BMne_item {k : Bool} {it l : Addr} {i : Nat} {items : Array Value} {x : Value} {Q : Option Value → Shared → Prop} (hit : BMIter s.heap k it l i)
    (hl : BMSeq s.heap k l items) (hx : items[i]? = some x)
    (hQ : ∀ h', BMIter h' k it l (i + 1) → Heap.SameBut it s.heap h' → Q (some x) { s with heap := h' }) :
    wpAny (model prog w) A (Builtin.SmallTypes.nextOrEnd (.ref it)) Q E s := by
  unfold Builtin.SmallTypes.nextOrEnd
  exact wpAny_bind (wpAny_attempt (BMnx_item hit hl hx fun h' h1 h2 => wpAny_pure (hQ h' h1 h2)))
theorem BMne_end {k : Bool} {it l : Addr} {i : Nat} {items : Array Value} {Q : Option Value → Shared → Prop} (hh : A.handled = none) (hit : BMIter s.heap k it l i)
    (hl : BMSeq s.heap k l items) (hx : items[i]? = none)
    (hQ : ∀ h', Heap.ExtBut it s.heap h' → Q none { s with heap := h' }) :
    wpAny (model prog w) A (Builtin.SmallTypes.nextOrEnd (.ref it)) Q E s := by
  unfold Builtin.SmallTypes.nextOrEnd
  refine wpAny_bind (wpAny_attempt (BMnx_end hh hit hl hx fun h' e h1 he => ?_))
  obtain ⟨o, ho, hc⟩ := he
  refine wpAny_bind (wpAny_isInstance (T := "StopIteration") (b := true) ⟨o, ho, hc⟩ isSubtype_stop ?_)
  exact wpAny_pure (hQ _ h1)
theorem BMzip_next_item {k1 k2 : Bool} {z TI TO i1 i2 l1 l2 : Addr} {j1 j2 : Nat} {xs ys : Array Value} {x y a b : Value} {Q : Value → Shared → Prop} (D : ZipApart z TI TO i1 i2 l1 l2)
    (hz : BMZip s.heap z TI TO .none) (hTI : IsPair s.heap TI (.ref i1) (.ref i2)) (hTO : IsPair s.heap TO a b)
    (h1 : BMIter s.heap k1 i1 l1 j1) (h2 : BMIter s.heap k2 i2 l2 j2) (hl1 : BMSeq s.heap k1 l1 xs) (hl2 : BMSeq s.heap k2 l2 ys) (hx : xs[j1]? = some x) (hy : ys[j2]? = some y)
    (hQ : ∀ h', BMZip h' z TI TO (rawInt s.heap.objs.size) → IsPair h' TO x y → BMIter h' k1 i1 l1 (j1 + 1) → BMIter h' k2 i2 l2 (j2 + 1) → IsPair h' s.heap.objs.size x y → h'.objs.size = s.heap.objs.size + 1 →
      (∀ c o, c ≠ z → c ≠ TO → c ≠ i1 → c ≠ i2 → s.heap.get? c = some o → h'.get? c = some o) → Q (.ref s.heap.objs.size) { s with heap := h' }) :
    wpAny (model prog w) A (Builtin.«zip.__next__» ⟨[.ref z], []⟩) (fun fin s' => ∃ v, fin = .done (.ret v) ∧ Q v s') E s := by
  show wpAny _ _ (field (.ref z) 2 >>= _) _ _ _
  refine wpAny_bind (wpAny_field hz rfl (x := .bool true) rfl ?_)
  show wpAny _ _ (field (.ref z) 3 >>= _) _ _ _
  refine wpAny_bind (wpAny_field hz rfl (x := .ref TI) rfl ?_)
  refine wpAny_bind (wpAny_seqItems hTI rfl ?_)
  show wpAny _ _ (Builtin.SmallTypes.ownedTupleIsFree (.ref z) >>= _) _ _ _
  refine wpAny_bind ?_
  unfold Builtin.SmallTypes.ownedTupleIsFree
  refine wpAny_bind (wpAny_field hz rfl (x := .none) rfl (wpAny_pure ?_))
  simp only [if_true]
  refine wpAny_bind (wpAny_rule ?_)
  refine wpAny_bind (wpAny_field hz rfl (x := .ref TO) rfl ?_)
  refine wpAny_bind (wpAny_setField_rec hz (by simp) fun h₁ hz₁ hs₁ => ?_)
  replace hz₁ : BMZip h₁ z TI TO .ellipsis := hz₁
  refine wpAny_bind ?_
  simp only [List.zipIdx_cons, List.zipIdx_nil, List.forIn_cons, List.forIn_nil]
  refine wpAny_bind (wpAny_bind (wpAny_onRaise ?_))
  show wpAny _ _ (Builtin.SmallTypes.nextOrEnd (.ref i1)) _ _ _
  refine BMne_item (h1.extBut hs₁.extBut D.i1z) (hl1.extBut hs₁.extBut D.l1z) hx fun h₂ h1₂ hs₂ => ?_
  have hTO₂ : IsPair h₂ TO a b := hs₂.extBut _ _ D.TOi1 (hs₁.extBut _ _ D.TOz hTO)
  refine wpAny_bind (wpAny_seqItems hTO₂ rfl ?_)
  refine wpAny_bind (wpAny_updateSeq_pair hTO₂ fun h₃ hTO₃ hs₃ => ?_)
  replace hTO₃ : IsPair h₃ TO x b := hTO₃
  refine wpAny_bind (wpAny_letGo (wpAny_pure ?_))
  refine wpAny_bind (wpAny_bind (wpAny_onRaise ?_))
  show wpAny _ _ (Builtin.SmallTypes.nextOrEnd (.ref i2)) _ _ _
  refine BMne_item (((h2.extBut hs₁.extBut D.i2z).extBut hs₂.extBut D.i12.symm).extBut hs₃.extBut D.TOi2.symm)
    (((hl2.extBut hs₁.extBut D.l2z).extBut hs₂.extBut D.l2i1).extBut hs₃.extBut D.l2TO) hy fun h₄ h2₄ hs₄ => ?_
  have hTO₄ : IsPair h₄ TO x b := hs₄.extBut _ _ D.TOi2 hTO₃
  refine wpAny_bind (wpAny_seqItems hTO₄ rfl ?_)
  refine wpAny_bind (wpAny_updateSeq_pair hTO₄ fun h₅ hTO₅ hs₅ => ?_)
  replace hTO₅ : IsPair h₅ TO x y := hTO₅
  refine wpAny_bind (wpAny_letGo (wpAny_pure (wpAny_pure ?_)))
  refine wpAny_bind (wpAny_seqItems hTO₅ rfl ?_)
  refine wpAny_bind (wpAny_newTuple ?_)
  have hsz : h₅.objs.size = s.heap.objs.size := by rw [hs₅.1, hs₄.1, hs₃.1, hs₂.1, hs₁.1]
  have hz₅ : BMZip h₅ z TI TO .ellipsis := hs₅.extBut _ _ D.TOz.symm (hs₄.extBut _ _ D.i2z.symm (hs₃.extBut _ _ D.TOz.symm (hs₂.extBut _ _ D.i1z.symm hz₁)))
  have hk₅ : ∀ c o, c ≠ z → c ≠ TO → c ≠ i1 → c ≠ i2 → s.heap.get? c = some o → h₅.get? c = some o := fun c o c1 c2 c3 c4 e =>
    hs₅.extBut _ _ c2 (hs₄.extBut _ _ c4 (hs₃.extBut _ _ c2 (hs₂.extBut _ _ c3 (hs₁.extBut _ _ c1 e))))
  have h1₅ : BMIter h₅ k1 i1 l1 (j1 + 1) := ((h1₂.extBut hs₃.extBut D.TOi1.symm).extBut hs₄.extBut D.i12).extBut hs₅.extBut D.TOi1.symm
  have h2₅ : BMIter h₅ k2 i2 l2 (j2 + 1) := h2₄.extBut hs₅.extBut D.TOi2.symm
  have hzlt : z < h₅.objs.size := Heap.lt_size hz₅
  have hTOlt : TO < h₅.objs.size := Heap.lt_size hTO₅
  show wpAny _ _ (Builtin.SmallTypes.ownedTupleHandOut (.ref z) (.ref h₅.objs.size) >>= _) _ _ _
  refine wpAny_bind ?_
  unfold Builtin.SmallTypes.ownedTupleHandOut
  have hz₆ : BMZip (h₅.push { cls := .type "tuple", data := .seq #[x, y] }) z TI TO .ellipsis := Heap.get?_push_of_some _ hz₅
  refine wpAny_bind (wpAny_setField_rec hz₆ (by simp) fun h₇ hz₇ hs₇ => ?_)
  replace hz₇ : BMZip h₇ z TI TO (rawInt h₅.objs.size) := hz₇
  refine wpAny_setField_rec hz₇ (by simp) fun h₈ hz₈ hs₈ => ?_
  replace hz₈ : BMZip h₈ z TI TO (rawInt h₅.objs.size) := hz₈
  have up : ∀ c o, c ≠ z → h₅.get? c = some o → h₈.get? c = some o := fun c o c1 e => hs₈.extBut _ _ c1 (hs₇.extBut _ _ c1 (Heap.get?_push_of_some _ e))
  have hT₈ : IsPair h₈ h₅.objs.size x y := hs₈.extBut _ _ (Nat.ne_of_gt hzlt) (hs₇.extBut _ _ (Nat.ne_of_gt hzlt) (Heap.get?_push_size _ rfl))
  have hz8 : h₈.objs.size = h₅.objs.size + 1 := by rw [hs₈.1, hs₇.1, Heap.size_push]
  rw [hsz] at hz₈ hT₈ hz8
  refine wpAny_pure ⟨_, rfl, ?_⟩
  show Q (.ref h₅.objs.size) _
  rw [hsz]
  exact hQ h₈ hz₈ (up _ _ D.TOz hTO₅) (h1₅.at fun o e => up _ o D.i1z e) (h2₅.at fun o e => up _ o D.i2z e) hT₈ hz8 fun c o c1 c2 c3 c4 e => up c o c1 (hk₅ c o c1 c2 c3 c4 e)
/-- both are at their end -/
theorem BMzip_next_end {k1 k2 : Bool} {z TI TO i1 i2 l1 l2 : Addr} {j1 j2 : Nat} {xs ys : Array Value} {a b : Value} {Q : Fin → Shared → Prop} (hh : A.handled = none) (D : ZipApart z TI TO i1 i2 l1 l2)
    (hz : BMZip s.heap z TI TO .none) (hTI : IsPair s.heap TI (.ref i1) (.ref i2)) (hTO : IsPair s.heap TO a b)
    (h1 : BMIter s.heap k1 i1 l1 j1) (h2 : BMIter s.heap k2 i2 l2 j2) (hl1 : BMSeq s.heap k1 l1 xs) (hl2 : BMSeq s.heap k2 l2 ys) (hx : xs[j1]? = none) (hy : ys[j2]? = none)
    (hE : ∀ h' e, (∀ c o, c ≠ z → c ≠ TO → c ≠ i1 → c ≠ i2 → s.heap.get? c = some o → h'.get? c = some o) → (∃ o, h'.get? e = some o ∧ o.cls = .type "StopIteration") → E (.ref e) { s with heap := h' }) :
    wpAny (model prog w) A (Builtin.«zip.__next__» ⟨[.ref z], []⟩) Q E s := by
  show wpAny _ _ (field (.ref z) 2 >>= _) _ _ _
  refine wpAny_bind (wpAny_field hz rfl (x := .bool true) rfl ?_)
  show wpAny _ _ (field (.ref z) 3 >>= _) _ _ _
  refine wpAny_bind (wpAny_field hz rfl (x := .ref TI) rfl ?_)
  refine wpAny_bind (wpAny_seqItems hTI rfl ?_)
  show wpAny _ _ (Builtin.SmallTypes.ownedTupleIsFree (.ref z) >>= _) _ _ _
  refine wpAny_bind ?_
  unfold Builtin.SmallTypes.ownedTupleIsFree
  refine wpAny_bind (wpAny_field hz rfl (x := .none) rfl (wpAny_pure ?_))
  simp only [if_true]
  refine wpAny_bind (wpAny_rule ?_)
  refine wpAny_bind (wpAny_field hz rfl (x := .ref TO) rfl ?_)
  refine wpAny_bind (wpAny_setField_rec hz (by simp) fun h₁ hz₁ hs₁ => ?_)
  replace hz₁ : BMZip h₁ z TI TO .ellipsis := hz₁
  refine wpAny_bind ?_
  simp only [List.zipIdx_cons, List.zipIdx_nil, List.forIn_cons, List.forIn_nil]
  refine wpAny_bind (wpAny_bind (wpAny_onRaise ?_))
  show wpAny _ _ (Builtin.SmallTypes.nextOrEnd (.ref i1)) _ _ _
  refine BMne_end hh (h1.extBut hs₁.extBut D.i1z) (hl1.extBut hs₁.extBut D.l1z) hx fun h₂ hs₂ => ?_
  have hz₂ : BMZip h₂ z TI TO .ellipsis := hs₂ _ _ D.i1z.symm hz₁
  refine wpAny_bind (wpAny_setField_rec hz₂ (by simp) fun h₃ _ hs₃ => ?_)
  have h2₃ : BMIter h₃ k2 i2 l2 j2 := ((h2.extBut hs₁.extBut D.i2z).extBut hs₂ D.i12.symm).extBut hs₃.extBut D.i2z
  have hl2₃ : BMSeq h₃ k2 l2 ys := ((hl2.extBut hs₁.extBut D.l2z).extBut hs₂ D.l2i1).extBut hs₃.extBut D.l2z
  refine wpAny_bind ?_
  show wpAny _ _ (forIn [((Value.ref i2, 1) : Value × Nat)] _ _ >>= _) _ _ _
  refine wpAny_bind ?_
  simp only [List.forIn_cons, List.forIn_nil]
  refine wpAny_bind (wpAny_bind (BMne_end hh h2₃ hl2₃ hy fun h₄ hs₄ => ?_))
  refine wpAny_pure (wpAny_pure ?_)
  refine wpAny_bind (wpAny_rule ?_)
  show wpAny _ _ (newExc (.type "StopIteration") [] >>= _) _ _ _
  refine wpAny_bind ?_
  simp only [newExc, newTuple]
  refine wpAny_bind (wpAny_newObj_type ?_ (by size_fits))
  refine wpAny_bind (m := firstArgMember _ _) (wpAny_of_eq (a := Value.none) (by first | rfl | (simp only [firstArgMember]; rfl)) ?_)
  refine wpAny_newObj_type ?_ (by size_fits)
  simp only [raiseNew]
  refine wpAny_bind (wpAny_handled ?_)
  rw [hh]
  refine wpAny_bind (wpAny_pure (wpAny_throw ?_))
  refine hE _ _ (fun c o c1 c2 c3 c4 e => Heap.get?_push_of_some _ (Heap.get?_push_of_some _ (hs₄ _ _ c4 (hs₃.extBut _ _ c1 (hs₂ _ _ c3 (hs₁.extBut _ _ c1 e)))))) ⟨_, Heap.get?_push_size _ rfl, rfl⟩
end
end PySem
set_option Elab.async false
set_option linter.all false
set_option maxRecDepth 100000
set_option maxHeartbeats 4000000
namespace PySem
open Sem (wp)
section
variable {prog : Program} {w : World} {A : Around} {E : Value → Shared → Prop} {s : Shared}
theorem BMpyNext_item {k1 k2 : Bool} {z TI TO i1 i2 l1 l2 : Addr} {j1 j2 : Nat} {xs ys : Array Value} {x y a b : Value} {Q : Option Value → Shared → Prop} (D : ZipApart z TI TO i1 i2 l1 l2)
    (hz : BMZip s.heap z TI TO .none) (hTI : IsPair s.heap TI (.ref i1) (.ref i2)) (hTO : IsPair s.heap TO a b)
    (h1 : BMIter s.heap k1 i1 l1 j1) (h2 : BMIter s.heap k2 i2 l2 j2) (hl1 : BMSeq s.heap k1 l1 xs) (hl2 : BMSeq s.heap k2 l2 ys) (hx : xs[j1]? = some x) (hy : ys[j2]? = some y)
    (hQ : ∀ h', BMZip h' z TI TO (rawInt s.heap.objs.size) → IsPair h' TO x y → BMIter h' k1 i1 l1 (j1 + 1) → BMIter h' k2 i2 l2 (j2 + 1) → IsPair h' s.heap.objs.size x y → h'.objs.size = s.heap.objs.size + 1 →
      (∀ c o, c ≠ z → c ≠ TO → c ≠ i1 → c ≠ i2 → s.heap.get? c = some o → h'.get? c = some o) → Q (some (.ref s.heap.objs.size)) { s with heap := h' }) :
    wpAny (model prog w) A (pyNext (.ref z)) Q E s := by
  have hT : s.TypeIs (.ref z) "zip" := ⟨_, hz, rfl⟩
  unfold pyNext
  exact wpAny_bind (wpAny_attempt (wpAny_callSpecial?_slot (name := Str.ofString "__next__") hT F.slot_zip_next
    (wpAny_call_entry F.slot_zip_next hT F.entry_zip_next
      (BMzip_next_item D hz hTI hTO h1 h2 hl1 hl2 hx hy fun h' a1 a2 a3 a4 a5 a6 a7 => wpAny_pure (hQ h' a1 a2 a3 a4 a5 a6 a7)) (F.args_zip_next_1 _))))
theorem BMpyNext_end {k1 k2 : Bool} {z TI TO i1 i2 l1 l2 : Addr} {j1 j2 : Nat} {xs ys : Array Value} {a b : Value} {Q : Option Value → Shared → Prop} (hh : A.handled = none) (D : ZipApart z TI TO i1 i2 l1 l2)
    (hz : BMZip s.heap z TI TO .none) (hTI : IsPair s.heap TI (.ref i1) (.ref i2)) (hTO : IsPair s.heap TO a b)
    (h1 : BMIter s.heap k1 i1 l1 j1) (h2 : BMIter s.heap k2 i2 l2 j2) (hl1 : BMSeq s.heap k1 l1 xs) (hl2 : BMSeq s.heap k2 l2 ys) (hx : xs[j1]? = none) (hy : ys[j2]? = none)
    (hQ : ∀ h', (∀ c o, c ≠ z → c ≠ TO → c ≠ i1 → c ≠ i2 → s.heap.get? c = some o → h'.get? c = some o) → Q none { s with heap := h' }) : wpAny (model prog w) A (pyNext (.ref z)) Q E s := by
  have hT : s.TypeIs (.ref z) "zip" := ⟨_, hz, rfl⟩
  unfold pyNext
  refine wpAny_bind (wpAny_attempt (wpAny_callSpecial?_slot (name := Str.ofString "__next__") hT F.slot_zip_next
    (wpAny_call_entry F.slot_zip_next hT F.entry_zip_next (BMzip_next_end hh D hz hTI hTO h1 h2 hl1 hl2 hx hy fun h' e hk he => ?_) (F.args_zip_next_1 _))))
  obtain ⟨o, ho, hc⟩ := he
  refine wpAny_bind (wpAny_isInstance (T := "StopIteration") (b := true) ⟨o, ho, hc⟩ isSubtype_stop ?_)
  exact wpAny_pure (hQ _ hk)
theorem BMgo_zip {elts : List Expr} {x1} {pos : Pos} {z TI TO T : Addr} {Q : Unit → Shared → Prop} (hz : BMZip s.heap z TI TO (rawInt T))
    (hQ : ∀ h', BMZip h' z TI TO .none → Heap.SameBut z s.heap h' → Q () { s with heap := h' }) :
    wpAny (model prog w) A (letOwnedTupleGo (.Tuple elts x1 pos) (.ref z) (.ref T)) Q E s := by
  unfold letOwnedTupleGo
  refine wpAny_bind (wpAny_load hz ?_)
  show wpAny _ _ (if (["enumerate", "zip", "dict_itemiterator", "dict_reverseitemiterator", "odict_iterator", "itertools.zip_longest", "itertools.pairwise"].contains "zip" &&
      (#[rawInt T, .bool false, .bool true, .ref TI, .ref TO] : Array Value)[0]? == some (rawInt T)) = true then _ else _) Q E s
  rw [if_pos (by simp)]
  refine wpAny_bind (wpAny_rule ?_)
  show wpAny _ _ (setField (.ref z) 0 .none) Q E s
  exact wpAny_setField_rec hz (by simp) fun h' hz' hs' => hQ h' hz' hs'
theorem BMpyIter_zip {z TI TO : Addr} {f0 : Value} {Q : Value → Shared → Prop} (hz : BMZip s.heap z TI TO f0) (h : Q (.ref z) s) : wpAny (model prog w) A (pyIter (.ref z)) Q E s := by
  have hT : s.TypeIs (.ref z) "zip" := ⟨_, hz, rfl⟩
  refine wpAny_pyIter_slot hT F.slot_zip_iter (wpAny_call_entry F.slot_zip_iter hT F.entry_zip_iter ?_ (F.args_zip_iter_1 _))
  show wpAny _ _ (ret (.ref z)) _ _ s
  exact wpAny_pure ⟨_, rfl, "zip", _, hT, F.slot_zip_next.lookup, h⟩
end
theorem BMtypeCall_zip (a b c : Value) : checkTypeCall "zip" ⟨[a, b], [(Str.ofString "strict", c)]⟩ = pure () := by kernel_rfl
theorem BMnewCall_zip (a b c : Value) : checkBuiltinCall "zip.__new__" ⟨[.type "zip", a, b], [(Str.ofString "strict", c)]⟩ = pure () := by kernel_rfl
theorem BMargs_object_init (obj a b c : Value) : argsOk "object.__init__" ⟨[obj, a, b], [(Str.ofString "strict", c)]⟩ := by unfold argsOk; kernel_rfl
abbrev BMzZ (h : Heap) (o1 o2 : Obj) : Heap := (gzO2 h o1 o2).push { cls := .type "zip", data := .fields #[.none, .bool false, .bool true, .ref ((h.push o1).push o2).objs.size, .ref (gzT2 h o1 o2).objs.size] }
theorem BMmeets_zip_new {v1 v2 : Value} {o1 o2 : Obj} {H1 H2 : Heap → Prop} (B1 : Begins v1 o1 H1) (B2 : Begins v2 o2 H2) :
    Meets (Builtin.«zip.__new__» ⟨[.type "zip", v1, v2], [(Str.ofString "strict", .bool true)]⟩) (fun _ R s => (H1 s.heap ∧ H2 s.heap) ∧
      R (.ok (.ret (.ref (gzO2 s.heap o1 o2).objs.size))) { s with heap := BMzZ s.heap o1 o2 }) :=
  .of_wp fun prog w A R s h => by
    obtain ⟨hp, g, d, tk, os⟩ := s; obtain ⟨⟨h1, h2⟩, h⟩ := h
    have hsub := sub_zip
    have e2 : (Str.ofString "strict" != ("strict" : Str)) = false := by decide +kernel
    have q1 : ∀ {A' : Around} {E : Value → Shared → Prop} {Q : Value → Shared → Prop}, Q (.ref hp.objs.size) ⟨(hp.push o1), g, d, tk, os⟩ → wpAny (model prog w) A' (pyIter v1) Q E ⟨hp, g, d, tk, os⟩ :=
      fun q => B1.iter prog w _ _ ⟨hp, g, d, tk, os⟩ _ (B1.keeps _ _ h1 fun b o' e => e) q
    have q2 : ∀ {A' : Around} {E : Value → Shared → Prop} {Q : Value → Shared → Prop}, Q (.ref (hp.push o1).objs.size) ⟨((hp.push o1).push o2), g, d, tk, os⟩ → wpAny (model prog w) A' (pyIter v2) Q E ⟨(hp.push o1), g, d, tk, os⟩ :=
      fun q => B2.iter prog w _ _ ⟨(hp.push o1), g, d, tk, os⟩ _ (B2.keeps _ _ h2 fun b o' e => (Heap.get?_push_of_some _ e)) q
    wp_walk using q1, q2
    exact ⟨_, rfl, h⟩
section
variable {prog : Program} {w : World} {A : Around} {E : Value → Shared → Prop} {s : Shared}
theorem BMcall_zip {v1 v2 : Value} {o1 o2 : Obj} {H1 H2 : Heap → Prop} {Q : Value → Shared → Prop} (B1 : Begins v1 o1 H1) (B2 : Begins v2 o2 H2) (h1 : H1 s.heap) (h2 : H2 s.heap)
    (h : ∀ h', BMZip h' (s.heap.objs.size + 4) (s.heap.objs.size + 2) (s.heap.objs.size + 3) .none → IsPair h' (s.heap.objs.size + 2) (.ref s.heap.objs.size) (.ref (s.heap.objs.size + 1)) →
      IsPair h' (s.heap.objs.size + 3) .none .none → h'.get? s.heap.objs.size = some o1 → h'.get? (s.heap.objs.size + 1) = some o2 → h'.objs.size = s.heap.objs.size + 5 →
      (∀ c o, s.heap.get? c = some o → h'.get? c = some o) → Q (.ref (s.heap.objs.size + 4)) { s with heap := h' }) :
    wpAny (model prog w) A (call (.type "zip") [v1, v2] [(Str.ofString "strict", .bool true)]) Q E s := by
  refine callType_newKw F.called_zip (by decide) (BMtypeCall_zip _ _ _) (BMnewCall_zip _ _ _) (fun obj => BMargs_object_init obj _ _ _) F.entry_zip_new
    (BMmeets_zip_new B1 B2) ⟨⟨h1, h2⟩, ?_⟩
  have z1 : (s.heap.push o1).objs.size = s.heap.objs.size + 1 := by rw [Heap.size_push]
  have z2 : ((s.heap.push o1).push o2).objs.size = s.heap.objs.size + 2 := by rw [Heap.size_push, z1]
  have zT : (gzT2 s.heap o1 o2).objs.size = s.heap.objs.size + 3 := by rw [Heap.size_push, z2]
  have zO : (gzO2 s.heap o1 o2).objs.size = s.heap.objs.size + 4 := by rw [Heap.size_push, zT]
  have zZ : (BMzZ s.heap o1 o2).objs.size = s.heap.objs.size + 5 := by rw [Heap.size_push, zO]
  have gZ : (BMzZ s.heap o1 o2).get? (gzO2 s.heap o1 o2).objs.size = some { cls := .type "zip", data := .fields #[.none, .bool false, .bool true, .ref ((s.heap.push o1).push o2).objs.size, .ref (gzT2 s.heap o1 o2).objs.size] } := Heap.get?_push_size _ rfl
  have gO : (BMzZ s.heap o1 o2).get? (gzT2 s.heap o1 o2).objs.size = some { cls := .type "tuple", data := .seq #[.none, .none] } := Heap.get?_push_of_some _ (Heap.get?_push_size _ rfl)
  have gT : (BMzZ s.heap o1 o2).get? ((s.heap.push o1).push o2).objs.size = some { cls := .type "tuple", data := .seq #[.ref s.heap.objs.size, .ref (s.heap.push o1).objs.size] } := Heap.get?_push_of_some _ (Heap.get?_push_of_some _ (Heap.get?_push_size _ rfl))
  have g1 : (BMzZ s.heap o1 o2).get? s.heap.objs.size = some o1 := Heap.get?_push_of_some _ (Heap.get?_push_of_some _ (Heap.get?_push_of_some _ (Heap.get?_push_of_some _ (Heap.get?_push_size _ B1.free))))
  have g2 : (BMzZ s.heap o1 o2).get? (s.heap.push o1).objs.size = some o2 := Heap.get?_push_of_some _ (Heap.get?_push_of_some _ (Heap.get?_push_of_some _ (Heap.get?_push_size _ B2.free)))
  rw [zO, zT, z2] at gZ
  rw [zT] at gO
  rw [z2, z1] at gT
  rw [z1] at g2
  show _ ∧ _
  rw [zO]
  exact ⟨⟨_, gZ, rfl⟩, h _ gZ gT gO g1 g2 zZ fun c o e => Heap.get?_push_of_some _ (Heap.get?_push_of_some _ (Heap.get?_push_of_some _ (Heap.get?_push_of_some _ (Heap.get?_push_of_some _ e))))⟩
theorem BMcallWith_type_kw {M : Model} {env : Env} {pos : Pos} {T : String} {e : Expr} {rest : List Expr} {kws : List Keyword} {Q : Value → Shared → Prop}
    (h : wpAny M A (spliced (backTo pos (starEach (e :: rest) env))) (fun vs s₁ => wpAny M A (evalAll ((backToKw pos (keywordEach kws env)).map (·.2)))
      (fun kvs s₂ => wpAny M A (call (.type T) vs (((backToKw pos (keywordEach kws env)).filterMap (·.1)).zip kvs)) Q E s₂) E s₁) E s)
    (he : starEach (e :: rest) env = (false, eval e env) :: starEach rest env)
    (hplain : (backTo pos (starEach (e :: rest) env)).any (·.1) = false)
    (hall : (backToKw pos (keywordEach kws env)).all (·.1.isSome) = true)
    (hkw : (backToKw pos (keywordEach kws env)).any (·.1.isNone) = false) :
    wpAny M A (callWith pos (.type T) [] (backTo pos (starEach (e :: rest) env)) (backToKw pos (keywordEach kws env))) Q E s := by
  have h' : wpAny M A (evalArgs (.type T) true (backTo pos (starEach (e :: rest) env)) (backToKw pos (keywordEach kws env))) (fun a s₁ => wpAny M A (call (.type T) ([] ++ a.pos) a.kw) Q E s₁) E s := by
    rw [he] at h ⊢
    exact PyProof.Rows.evalArgs_kwB hall h
  unfold callWith
  refine wpAny_bind (wpAny_holding (wpAny_mono h' (fun a s₁ h₁ => wpAny_bind (wpAny_standAt ?_)) fun _ _ x => x))
  simp only [hplain, hkw, Bool.or_false]
  refine wpAny_bind (wpAny_pure ?_)
  exact wpAny_bind (wpAny_mono h₁ (fun r s₂ hr => wpAny_bind (wpAny_holding (wpAny_point (wpAny_pure hr)))) fun _ _ x => x)
end
end PySem
namespace BM
open PySem PySem.Spec PyProof.Rows L2
variable [Tb]
/-- a tracked list (false) or tuple (true) -/
def SqB (K : PySem.W.Frag) (H : Hp) (k : Bool) (a : Addr) (xs : List V) : Prop := match k with
  | true => SqT K H a xs
  | false => SqL K H a xs
theorem inv_seqB {X : Cx} {pins : List (Addr × Obj)} {σ : L2.St} {H : Hp} {s : Shared} (I : Inv X pins σ H s) {k : Bool} {a : Addr} {xs : List V} (h : SqB X.K H k a xs) :
    ∃ its : List Value, Vals xs its ∧ BMSeq s.heap k a its.toArray := by
  cases k
  · obtain ⟨its, rv, p, _⟩ := I.list h
    exact ⟨its, rv, p.isList⟩
  · obtain ⟨its, rv, p, _⟩ := I.tuple h
    exact ⟨its, rv, p⟩
theorem inv_seqB_inj {X : Cx} {pins : List (Addr × Obj)} {σ : L2.St} {H : Hp} {s : Shared} (I : Inv X pins σ H s) {k : Bool} {a : Addr} {xs ys : List V} (h : SqB X.K H k a xs) (h' : SqB X.K H k a ys) : xs = ys := by
  cases k
  · exact I.list_inj h h'
  · exact I.tuple_inj h h'
def ItzS (K : PySem.W.Frag) (ka : Bool) (a : Addr) (kb : Bool) (b : Addr) : L2.It :=
  ⟨fun i H => ∃ (xs ys : List V) (x y : V), SqB K H ka a xs ∧ SqB K H kb b ys ∧ xs[i]? = some x ∧ ys[i]? = some y,
    fun i H v H' => ∃ T x y, v = .ref T ∧ H T = none ∧ H' = upd H T (.tup [x, y]) ∧ (∀ xs, SqB K H ka a xs → xs[i]? = some x) ∧ ∀ ys, SqB K H kb b ys → ys[i]? = some y,
    fun i H => ∃ xs ys : List V, SqB K H ka a xs ∧ SqB K H kb b ys ∧ xs.length ≤ i ∧ ys.length ≤ i⟩
theorem turn_zipS {P : Program} {w : World} {K : PySem.W.Frag} {elts : List Expr} {kk : Nat} {tpos : Pos} {ka kb : Bool} {a b z TI TO i1 i2 : Addr} (D : ZipApart z TI TO i1 i2 a b) :
    Turn P w K (.Tuple elts kk tpos) (ItzS K ka a kb b) [z, TI, TO, i1, i2] z (fun i h => BMZip h z TI TO .none ∧ IsPair h TI (.ref i1) (.ref i2) ∧ (∃ x y, IsPair h TO x y) ∧ BMIter h ka i1 a i ∧ BMIter h kb i2 b i) where
  mem := by simp
  obj := fun i h st c hc => by
    obtain ⟨hz, hTI, ⟨x, y, hTO⟩, h1, h2⟩ := st
    obtain ⟨o1, e1, _, d1⟩ := h1.ex
    obtain ⟨o2, e2, _, d2⟩ := h2.ex
    have e' : c = z ∨ c = TI ∨ c = TO ∨ c = i1 ∨ c = i2 := by simpa using hc
    rcases e' with q | q | q | q | q
    · rw [q]; exact ⟨_, hz, fun v q => nomatch q⟩
    · rw [q]; exact ⟨_, hTI, fun v q => nomatch q⟩
    · rw [q]; exact ⟨_, hTO, fun v q => nomatch q⟩
    · rw [q]; exact ⟨o1, e1, fun v q => by rw [d1] at q; cases q⟩
    · rw [q]; exact ⟨o2, e2, fun v q => by rw [d2] at q; cases q⟩
  keep := fun i h h' st k => by
    obtain ⟨hz, hTI, ⟨x, y, hTO⟩, h1, h2⟩ := st
    exact ⟨k z (by simp) _ hz, k TI (by simp) _ hTI, ⟨x, y, k TO (by simp) _ hTO⟩, h1.at fun o q => k i1 (by simp) o q, h2.at fun o q => k i2 (by simp) o q⟩
  item := by
    intro X hP hw hK hc i pins s σ H E I hf st hg
    subst hP hw hK
    obtain ⟨hz, hTI, ⟨x0, y0, hTO⟩, h1, h2⟩ := st
    obtain ⟨xs, ys, x, y, hqx, hqy, hx, hy⟩ := hg
    obtain ⟨its, rv, p⟩ := inv_seqB I hqx
    obtain ⟨its2, rv2, p2⟩ := inv_seqB I hqy
    obtain ⟨u, hu, ru⟩ := rv.get hx
    obtain ⟨u2, hu2, ru2⟩ := rv2.get hy
    have hzl : z < s.heap.objs.size := Heap.lt_size hz
    have hTIl : TI < s.heap.objs.size := Heap.lt_size hTI
    have hTOl : TO < s.heap.objs.size := Heap.lt_size hTO
    have hi1l : i1 < s.heap.objs.size := by obtain ⟨o1, e1, _⟩ := h1.ex; exact Heap.lt_size e1
    have hi2l : i2 < s.heap.objs.size := by obtain ⟨o1, e1, _⟩ := h2.ex; exact Heap.lt_size e1
    refine BMpyNext_item D hz hTI hTO h1 h2 p p2 (x := u) (y := u2) (by simpa using hu) (by simpa using hu2) fun h' z' TO' h1' h2' hT hsz hk => ?_
    refine ⟨_, rfl, BMgo_zip (s := { s with heap := h' }) z' fun h'' z'' sb => ?_⟩
    have hT2 : h''.get? s.heap.objs.size = some { cls := .type "tuple", data := .seq #[u, u2] } := (sb.2 _ (Nat.ne_of_gt hzl)).trans hT
    have new : ObjOk X.prog X.w (upd H s.heap.objs.size (.tup [x, y])) h'' s.heap.objs.size (.tup [x, y]) :=
      ⟨by show 2 ≤ sizeLine; decide, [u, u2], .cons ru (.cons ru2 .nil), ⟨_, hT2, rfl, _, rfl⟩⟩
    have I1 : L2.Inv X pins σ (upd H s.heap.objs.size (.tup [x, y])) { s with heap := h'' } :=
      I.turnedNew (t' := s.toks) (ch := [z, TI, TO, i1, i2]) (fun c o hb q => (sb.2 c (fun q' => hb (by simp [q']))).trans (hk c o (fun q' => hb (by simp [q'])) (fun q' => hb (by simp [q'])) (fun q' => hb (by simp [q'])) (fun q' => hb (by simp [q'])) q)) hf (Nat.le_refl _) new
    refine ⟨.ref s.heap.objs.size, _, I1, rfl, ⟨_, x, y, rfl, I.hok.fresh (Nat.le_refl _), rfl, fun l hl => by rw [inv_seqB_inj I hl hqx]; exact hx, fun l hl => by rw [inv_seqB_inj I hl hqy]; exact hy⟩, ⟨z'', ?_, ⟨u, u2, ?_⟩, ?_, ?_⟩, fun c hcm => ?_⟩
    · exact (sb.2 _ D.TIz).trans (hk _ _ D.TIz D.TITO D.TIi1 D.TIi2 hTI)
    · exact (sb.2 _ D.TOz).trans TO'
    · exact h1'.at fun o q => (sb.2 _ D.i1z).trans q
    · exact h2'.at fun o q => (sb.2 _ D.i2z).trans q
    · have hlt : c < s.heap.objs.size := by
        have e' : c = z ∨ c = TI ∨ c = TO ∨ c = i1 ∨ c = i2 := by simpa using hcm
        rcases e' with q | q | q | q | q
        · rw [q]; exact hzl
        · rw [q]; exact hTIl
        · rw [q]; exact hTOl
        · rw [q]; exact hi1l
        · rw [q]; exact hi2l
      rw [upd_ne (Nat.ne_of_lt hlt)]
      exact (hf c hcm).1
  done := by
    intro X hP hw hK hc i pins s σ H E I hf st hg
    subst hP hw hK
    obtain ⟨hz, hTI, ⟨x0, y0, hTO⟩, h1, h2⟩ := st
    obtain ⟨xs, ys, hqx, hqy, he1, he2⟩ := hg
    obtain ⟨its, rv, p⟩ := inv_seqB I hqx
    obtain ⟨its2, rv2, p2⟩ := inv_seqB I hqy
    have l1 := rv.length
    have l2 := rv2.length
    exact BMpyNext_end (I.ok.hd hc) D hz hTI hTO h1 h2 p p2 (by simp; omega) (by simp; omega) fun h' hk => ⟨rfl, I.turnedL (t' := s.toks) (ch := [z, TI, TO, i1, i2]) (fun c o hb q =>
      hk c o (fun q' => hb (by simp [q'])) (fun q' => hb (by simp [q'])) (fun q' => hb (by simp [q'])) (fun q' => hb (by simp [q'])) q) hf⟩
  self := fun A i s Q E st h => BMpyIter_zip st.1 h
def iZipSt (K : PySem.W.Frag) (ta : TA) : TI := fun σ H R => ta σ H fun vs H1 => ∃ ka a kb b xs ys, vs = [.ref a, .ref b] ∧ SqB K H1 ka a xs ∧ SqB K H1 kb b ys ∧ R (ItzS K ka a kb b) H1
theorem pi_zipS {X : Cx} {e e2 : Expr} {ta : TA} {p pos tpos cp kp : Pos} {elts : List Expr} {j kk : Nat} (hg : Gl X "zip") (hm : X.mg "zip" = none) (ha : PA X [e, e2] ta)
    (hs : starEach [e, e2] X.env = (false, eval e X.env) :: starEach [e2] X.env) (hpl : (backTo pos (starEach [e, e2] X.env)).any (·.1) = false) :
    PI X (.Tuple elts kk tpos) (.Call (.Name "zip" p) [e, e2] [⟨some "strict", .Constant (.bool true) j cp, kp⟩] pos) (iZipSt X.K ta) := by
  refine ⟨fun pins s σ H R I h => ?_⟩
  refine wpAny_Call_Name_kw (ld_blt I hg hm PyProof.Rows.boot_zip ?_)
  refine BMcallWith_type_kw (thn (ha.run pos pins s σ H _ I h) fun us s1 ⟨vs, H1, I1, r1, q1⟩ => ?_) hs hpl rfl rfl
  refine PyProof.Rows.kws_cons (thn ((pe_bl (X := X) (j := j) (pos := cp)).run pins s1 σ H1 (fun v H => v = .bl true ∧ H = H1) I1 ⟨rfl, rfl⟩) fun u s2 ⟨v, H2, I2, rv, ev, eH⟩ => ?_)
  subst ev
  subst eH
  cases rv
  refine PyProof.Rows.kws_nil ?_
  show wpAny _ _ (call (.type "zip") us [(Str.ofString "strict", .bool true)]) _ _ _
  obtain ⟨ka, a, kb, b, xs, ys, ex, hqx, hqy, q⟩ := q1
  subst ex
  cases r1 with
  | cons r rr =>
    cases rr with
    | cons r' rr =>
      cases rr
      cases r
      cases r'
      obtain ⟨its, rv, p1⟩ := inv_seqB I2 hqx
      obtain ⟨its2, rv2, p2⟩ := inv_seqB I2 hqy
      have la : a < s2.heap.objs.size := by obtain ⟨o, e⟩ := p1.ex; exact Heap.lt_size e
      have lb : b < s2.heap.objs.size := by obtain ⟨o, e⟩ := p2.ex; exact Heap.lt_size e
      refine BMcall_zip (BMbegins ka a _) (BMbegins kb b _) p1 p2 fun h' hz hTI hTO h1 h2 hsz hk => BMpyIter_zip hz ?_
      have I3 : L2.Inv X pins σ _ { s2 with heap := h' } := I2.kept (t' := s2.toks) hk
      refine ⟨s2.heap.objs.size + 4, [s2.heap.objs.size + 4, s2.heap.objs.size + 2, s2.heap.objs.size + 3, s2.heap.objs.size, s2.heap.objs.size + 1], _, _, _, rfl, I3, turn_zipS (PySem.W.ktu_apart s2.heap.objs.size a b la lb), ⟨hz, hTI, ⟨_, _, hTO⟩, .of h1, .of h2⟩, fun c hcm => ?_, q⟩
      have e' : c = s2.heap.objs.size + 4 ∨ c = s2.heap.objs.size + 2 ∨ c = s2.heap.objs.size + 3 ∨ c = s2.heap.objs.size ∨ c = s2.heap.objs.size + 1 := by simpa using hcm
      have hle : s2.heap.objs.size ≤ c := by
        rcases e' with z | z | z | z | z
        · rw [z]; exact Nat.le_add_right _ _
        · rw [z]; exact Nat.le_add_right _ _
        · rw [z]; exact Nat.le_add_right _ _
        · rw [z]; exact Nat.le_refl _
        · rw [z]; exact Nat.le_add_right _ _
      exact I2.fpOk hle (I2.hok.fresh hle)
def zipD (l1 l2 : List D) : List D := List.zipWith (fun x y => D.tup [x, y]) l1 l2
theorem zipD_at {l1 l2 : List D} {i : Nat} (h : i < (zipD l1 l2).length) (h1 : i < l1.length) (h2 : i < l2.length) : (zipD l1 l2)[i] = .tup [l1[i], l2[i]] := List.getElem_zipWith (f := fun x y => D.tup [x, y]) (h := h)
def iZipS (m1 m2 : M O) : M (List D) := fun s => match mArgs [m1, m2] s with
  | some ([o1, o2], s') => match listOfD o1.toD, listOfD o2.toD with
    | some l1, some l2 => if l1.length = l2.length then some (zipD l1 l2, s') else none
    | _, _ => none
  | _ => none
def isTup : D → Bool
  | .tup _ => true
  | _ => false
/-- a frozen sequence, read -/
theorem St.read_seq {K : PySem.W.Frag} {H : Hp} {L : List It} {d : D} {l : List D} {v : V} (hl : listOfD d = some l) (h : St K H (.rep (.d d) v :: L)) :
    ∃ k a vs, v = .ref a ∧ SqB K H k a vs ∧ k = isTup d ∧ l.length = vs.length ∧ St K H (reps (leaf l) vs ++ (.rep (.d d) v :: L)) := by
  cases d with
  | lst l' =>
    cases hl
    obtain ⟨a, vs, e1, h1, h2, h3⟩ := h.read_lst
    exact ⟨false, a, vs, e1, h1, rfl, h2, h3⟩
  | tup l' =>
    cases hl
    obtain ⟨a, vs, e1, h1, h2, h3⟩ := h.read_tup
    exact ⟨true, a, vs, e1, h1, rfl, h2, h3⟩
  | _ => cases hl
section
variable {Γ : Gm} {e e2 tg : Expr} {m m2 : M O} {p pos tpos cp kp : Pos} {elts : List Expr} {j kk : Nat}
theorem si_zipS (h : Sar Γ [e, e2] (mArgs [m, m2])) (hn : NoStars [e, e2]) (hg : Γ.glo "zip" = true) (hmg : Γ.cfg.mg "zip" = none) :
    Si Γ (.Tuple elts kk tpos) (.Call (.Name "zip" p) [e, e2] [⟨some "strict", .Constant (.bool true) j cp, kp⟩] pos) (iZipS m m2) := ⟨fun X ok env ds env' hm σ H T hr R q => by
  unfold iZipS at hm
  split at hm
  · rename_i o1 o2 s1 q1
    split at hm
    · rename_i l1 l2 g1 g2
      split at hm
      · rename_i hl
        have e1 := Option.some.inj hm
        injection e1 with e1 e2
        subst e1 e2
        refine ⟨_, pi_zipS (ok.glo hg) (by rw [ok.hmg]; exact hmg) (pa_of hn) (ns_head hn _) (backTo_plain hn), ?_⟩
        unfold iZipSt
        refine h.run X ok env [o1, o2] s1 q1 σ H T hr _ fun vs H1 hvl r1 => ?_
        match vs, hvl with
        | [v1, v2], _ =>
          have r2 : RS Γ.cfg.K H1 s1 σ ([.rep (.d o1.toD) v1, .rep (.d o2.toD) v2] ++ T) := by
            have r1 : RS Γ.cfg.K H1 s1 σ (.rep o1 v1 :: (.rep o2 v2 :: T)) := r1
            exact ((r1.freeze.perm (.swap _ _ _)).freeze).perm (.swap _ _ _)
          have look : ∃ ka a kb b xs ys, v1 = .ref a ∧ v2 = .ref b ∧ SqB Γ.cfg.K H1 ka a xs ∧ SqB Γ.cfg.K H1 kb b ys ∧ ka = isTup o1.toD ∧ kb = isTup o2.toD := by
            obtain ⟨L, _, hS⟩ := r2
            obtain ⟨ka, a, xs, e1, h1, ek, _⟩ := St.read_seq (L := .rep (.d o2.toD) v2 :: (T ++ L)) g1 hS
            obtain ⟨kb, b, ys, e2, h2, ek2, _⟩ := St.read_seq (L := .rep (.d o1.toD) v1 :: (T ++ L)) g2 (hS.perm (.swap _ _ _))
            exact ⟨ka, a, kb, b, xs, ys, e1, e2, h1, h2, ek, ek2⟩
          obtain ⟨ka, a, kb, b, xs, ys, e1, e2, h1, h2, ek, ek2⟩ := look
          subst e1 e2
          refine ⟨ka, a, kb, b, xs, ys, rfl, by rw [ok.hK]; exact h1, by rw [ok.hK]; exact h2, ?_⟩
          have hz : (zipD l1 l2).length = l1.length := by unfold zipD; rw [List.length_zipWith]; omega
          refine q _ H1 [.rep (.d o1.toD) (.ref a), .rep (.d o2.toD) (.ref b)] ⟨fun i H2 L hi hS => ?_, fun H2 L hS => ?_, fun i H2 L x H' hi hS hy => ?_⟩ r2
          · obtain ⟨k1, a', us, c1, s1, c2, c3, c4⟩ := St.read_seq (L := .rep (.d o2.toD) (.ref b) :: L) g1 hS
            obtain ⟨k2, b', ws, d1, s2, d2, d3, d4⟩ := St.read_seq (L := .rep (.d o1.toD) (.ref a) :: L) g2 (hS.perm (.swap _ _ _))
            cases c1; cases d1
            rw [← c2] at ek; rw [← d2] at ek2
            subst ek ek2
            rw [hz] at hi
            rw [ok.hK]
            exact ⟨us, ws, us[i]'(by omega), ws[i]'(by omega), s1, s2, by simp [show i < us.length by omega], by simp [show i < ws.length by omega]⟩
          · obtain ⟨k1, a', us, c1, s1, c2, c3, c4⟩ := St.read_seq (L := .rep (.d o2.toD) (.ref b) :: L) g1 hS
            obtain ⟨k2, b', ws, d1, s2, d2, d3, d4⟩ := St.read_seq (L := .rep (.d o1.toD) (.ref a) :: L) g2 (hS.perm (.swap _ _ _))
            cases c1; cases d1
            rw [← c2] at ek; rw [← d2] at ek2
            subst ek ek2
            rw [ok.hK]
            exact ⟨us, ws, s1, s2, by omega, by omega⟩
          · obtain ⟨k1, a', us, c1, s1, c2, c3, c4⟩ := St.read_seq (L := .rep (.d o2.toD) (.ref b) :: L) g1 hS
            obtain ⟨k2, b', ws, d1, s2, d2, d3, d4⟩ := St.read_seq (L := .rep (.d o1.toD) (.ref a) :: L) g2 (hS.perm (.swap _ _ _))
            cases c1; cases d1
            rw [← c2] at ek; rw [← d2] at ek2
            subst ek ek2
            rw [ok.hK] at hy
            obtain ⟨T', x', y', rfl, hT, rfl, y1, y2⟩ := hy
            rw [hz] at hi
            have t1 := reps_pick c3 c4 hi (y1 us s1)
            have t2 : St Γ.cfg.K H2 (.rep (.d o2.toD) (.ref b) :: (.rep (.d l1[i]) x' :: .rep (.d o1.toD) (.ref a) :: L)) := t1.perm (((List.Perm.swap _ _ _).cons _).trans (List.Perm.swap _ _ _))
            obtain ⟨k3, b'', ws', f1, f2, f3, f4, f5⟩ := St.read_seq g2 t2
            cases f1
            rw [← f3] at d2
            subst d2
            have t3 := reps_pick f4 f5 (show i < l2.length by omega) (y2 ws' f2)
            have t4 : St Γ.cfg.K H2 (reps (leaf [l1[i], l2[i]]) [x', y'] ++ (.rep (.d o1.toD) (.ref a) :: .rep (.d o2.toD) (.ref b) :: L)) :=
              t3.perm (((List.Perm.swap _ _ _).cons _).trans ((List.Perm.swap _ _ _).trans (((List.Perm.swap _ _ _).cons _).cons _)))
            rw [zipD_at _ hi (show i < l2.length by omega)]
            exact St.newTup (ds := [l1[i], l2[i]]) (vs := [x', y']) rfl hT t4
      · cases hm
    · cases hm
  · cases hm⟩
end
end BM
set_option Elab.async false
set_option linter.all false
set_option maxRecDepth 100000
set_option maxHeartbeats 4000000
namespace BM
open PySem PySem.Spec PyProof.Rows L2
variable [Tb]
def sFail : M Fl := mfail
theorem ss_fail {Γ : Gm} {st : Stmt} : Ss Γ st sFail [] := ⟨fun X ok env fl env' hm σ H T hr D q => nomatch (show (none : Option (Fl × Env)) = _ from hm)⟩
def sgs (x : Str) : List D := x.cps.toList.map fun c => D.str ⟨#[c]⟩
def seqD : D → Option (List D)
  | .lst l => some l
  | .tup l => some l
  | .str x => some (sgs x)
  | _ => none
def iSX (m : M O) : M (List D) := fun s => match m s with
  | some (o, s') => match seqD o.toD with
    | some l => some (l, s')
    | none => none
  | none => none
theorem e_iSX (m : M O) (s : Env) : iSX m s = ob (m s) fun o s' => oo (seqD o.toD) fun l => some (l, s') := by
  unfold iSX ob oo
  cases m s with
  | none => rfl
  | some p => simp only; cases seqD p.1.toD <;> rfl
section
variable {Γ : Gm} {e tg : Expr} {m : M O}
theorem si_seqX (h : Sd Γ e m) : Si Γ tg e (iSX m) := ⟨fun X ok env ds env' hm σ H T hr R q => by
  unfold iSX at hm
  cases q1 : m env with
  | none => rw [q1] at hm; cases hm
  | some r =>
    obtain ⟨o, s1⟩ := r
    rw [q1] at hm
    cases q2 : o.toD with
    | lst l =>
      have e1 : iS m env = some (ds, env') := by
        unfold iS; rw [q1]; simp only [q2, listOfD]; simpa only [q2, seqD] using hm
      exact (si_seq h).run X ok env ds env' e1 σ H T hr R q
    | tup l =>
      have e1 : iS m env = some (ds, env') := by
        unfold iS; rw [q1]; simp only [q2, listOfD]; simpa only [q2, seqD] using hm
      exact (si_seq h).run X ok env ds env' e1 σ H T hr R q
    | str x =>
      simp only [q2, seqD] at hm
      have e1 := Option.some.inj hm
      injection e1 with e1 e2
      subst e1 e2
      refine ⟨_, pi_str (pe_best X e), ?_⟩
      refine h.run X ok env o s1 q1 σ H T hr _ fun v H1 r1 => ?_
      have r1 := r1.freeze
      rw [q2] at r1
      have ev : v = .str x := by
        obtain ⟨L, _, hS⟩ := r1
        exact St.strv hS
      have hz : (sgs x).length = x.cps.size := by unfold sgs; simp
      refine ⟨x, ev, q _ H1 [] ⟨fun i H2 L hi hS => ?_, fun H2 L hS => ?_, fun i H2 L y H' hi hS hy => ?_⟩ r1.drop⟩
      · show i < x.cps.size
        omega
      · show x.cps.size ≤ (sgs x).length
        omega
      · obtain ⟨rfl, c, hc, rfl⟩ := hy
        have e5 : (sgs x)[i]? = some (D.str ⟨#[c]⟩) := by
          unfold sgs
          have e4 : x.cps.toList[i]? = some c := by simpa using hc
          rw [List.getElem?_map, e4]; rfl
        have e3 : (sgs x)[i] = D.str ⟨#[c]⟩ := (List.getElem?_eq_some_iff.mp e5).2
        rw [e3]
        exact hS.flat rfl
    | non => simp only [q2, seqD] at hm; cases hm
    | bl _ => simp only [q2, seqD] at hm; cases hm
    | int _ => simp only [q2, seqD] at hm; cases hm
    | dct _ => simp only [q2, seqD] at hm; cases hm
    | obj _ _ _ => simp only [q2, seqD] at hm; cases hm⟩
end
theorem vals_pt : ∀ {xs : List V} {us : List Value}, xs.length = us.length → (∀ (j : Nat) (x : V) (u : Value), xs[j]? = some x → us[j]? = some u → RelV x u) → Vals xs us
  | [], [], _, _ => .nil
  | x :: xs, u :: us, hl, h => .cons (h 0 x u rfl rfl) (vals_pt (by simpa using hl) fun j y w h1 h2 => h (j + 1) y w h1 h2)
  | [], _ :: _, hl, _ => by cases hl
  | _ :: _, [], hl, _ => by cases hl
theorem St.signs {K : PySem.W.Frag} {H : Hp} {L : List It} (h : St K H L) : ∀ cs : List Nat, St K H (reps (leaf (cs.map fun c => D.str ⟨#[c]⟩)) (cs.map fun c => V.str ⟨#[c]⟩) ++ L)
  | [] => h
  | c :: cs => (St.signs h cs).flat (d := .str ⟨#[c]⟩) (v := .str ⟨#[c]⟩) rfl
section
variable {X : Cx}
def rListStr : List V → Hp → VK → Prop := fun vs H Q => ∃ x : Str, vs = [V.str x] ∧ x.cps.size ≤ sizeLine ∧ ∀ p, H p = none → Q (.ref p) (upd H p (.lst (x.cps.toList.map fun c => V.str ⟨#[c]⟩)))
theorem cr_listStr (hc : X.calm = true) : CallR X (.type "list") rListStr := by
  intro pins s σ H vs us Q I r h
  obtain ⟨x, rfl, hz, q⟩ := h
  obtain ⟨u, rfl, rx⟩ := vals1 r
  obtain ⟨t, rfl⟩ := rx
  refine call_list_str (I.ok.hd hc) x t (hn := hz) fun h' tk acc' c' hk hS' hacc => ?_
  have rv : Vals (x.cps.toList.map fun c => V.str ⟨#[c]⟩) acc'.toList := vals_pt (by simp [hacc.1]) fun j y w h1 h2 => by
    obtain ⟨c, u, hc, rfl⟩ := hacc.2 j w (by simpa using h2)
    rw [List.getElem?_map] at h1
    have e4 : x.cps.toList[j]? = some c := by simpa using hc
    rw [e4] at h1
    have e5 := Option.some.inj h1
    subst e5
    exact ⟨_, rfl⟩
  exact ⟨.ref s.heap.objs.size, _, I.laid (t' := tk) hk (Nat.le_refl _) (show ObjOk X.prog X.w _ h' _ (.lst _) from ⟨by rw [List.length_map, Array.length_toList]; exact hz, acc'.toList, c', rv, by simpa using hS'⟩), rfl, q _ (I.hok.fresh (Nat.le_refl _))⟩
end
def fListX : D → Option O
  | .str x => if x.cps.size ≤ sizeLine then some (.lst (leaf (sgs x))) else none
  | d => fList d
section
variable {Γ : Gm}
theorem ok_listX : OkC Γ (.type "list") (w1 fListX) := okC1 fun X ok H L x d o hS lx hF Q q => by
  unfold fListX at hF
  split at hF
  · rename_i y
    by_cases hz : y.cps.size ≤ sizeLine
    · rw [if_pos hz] at hF
      have e1 := Option.some.inj hF
      subst e1
      refine ⟨_, cr_listStr ok.calm, y, by rw [lx.str hS], hz, fun p hp => q _ _ ?_⟩
      exact St.newLst (ds := sgs y) (by unfold sgs; simp) hp (hS.signs _)
    · rw [if_neg hz] at hF; cases hF
  · exact ok_list X ok H L [x] [d] o hS (.cons lx .nil) hF Q q
end
def mJoin2 (a b : M O) : M O := fun s => match a s with
  | some (x, s') => match x.toD with
    | .str sep => mJoin sep b s'
    | _ => none
  | none => none
def joinK (b : M O) (x : D) (s : Env) : Option (O × Env) := match x with
  | .str sep => mJoin sep b s
  | _ => none
theorem e_join2 (a b : M O) (s : Env) : mJoin2 a b s = ob (a s) fun x s' => joinK b x.toD s' := by
  unfold mJoin2 ob joinK
  cases a s with
  | none => rfl
  | some p => simp only
theorem joinK_str (b : M O) (x : Str) (s : Env) : joinK b (.str x) s = mJoin x b s := rfl
end BM
set_option Elab.async false
set_option linter.all false
set_option maxRecDepth 100000
set_option maxHeartbeats 4000000
namespace BM
open PySem PySem.Spec PyProof.Rows L2
variable [Tb]
section
variable {X : Cx}
def rEqZ (K : PySem.W.Frag) (neg : Bool) : V → V → Hp → VK → Prop := fun x y H Q => ∃ (k : Bool) (a b : Addr) (xs : List V), x = .ref a ∧ y = .ref b ∧ SqB K H k a xs ∧ SqB K H k b [] ∧ Q (.bl (if neg = true then !xs.isEmpty else xs.isEmpty)) H
theorem isEmpty_vals {xs : List V} {its : List Value} (r : Vals xs its) : its.isEmpty = xs.isEmpty := by
  cases r <;> rfl
theorem op_eqZ (hu : X.A.units + 64 < cLine) : OpR X (compareOp .Eq) (rEqZ X.K false) := by
  intro pins s σ H x y v u Q I rx ry h
  obtain ⟨k, a, b, xs, rfl, rfl, h1, h2, q⟩ := h
  cases (show v = Value.ref a from rx)
  cases (show u = Value.ref b from ry)
  obtain ⟨its, rv, t1⟩ := inv_seqB I h1
  obtain ⟨its2, rv2, t2⟩ := inv_seqB I h2
  cases rv2
  have he := isEmpty_vals rv
  cases k with
  | true =>
    have r := SeqAt.RcAt.tuples (A := X.A) (e := fun _ => true) t1 t2 (by omega) fun j j1 j2 => absurd j2 (Nat.not_lt_zero _)
    refine r X.prog X.w X.xe _ ⟨.bl xs.isEmpty, H, I, ?_, q⟩
    show Value.bool _ = Value.bool _
    congr 1
    rw [← he]
    cases its <;> simp
  | false =>
    cases its with
    | nil =>
      have r := SeqAt.RcAt.lists (A := X.A) (e := fun _ => true) t1 t2 rfl (by omega) fun j j1 j2 => absurd j2 (Nat.not_lt_zero _)
      refine r X.prog X.w X.xe _ ⟨.bl xs.isEmpty, H, I, ?_, q⟩
      show Value.bool _ = Value.bool _
      rw [← he]; rfl
    | cons z zs =>
      have r := SeqAt.RcAt.lists_lengths (A := X.A) t1 t2 (by simp) (by omega)
      refine r X.prog X.w X.xe _ ⟨.bl xs.isEmpty, H, I, ?_, q⟩
      show Value.bool _ = Value.bool _
      rw [← he]; rfl
end
def fEqZ : D → D → Option Bool
  | .tup a, .tup [] => some a.isEmpty
  | .lst a, .lst [] => some a.isEmpty
  | a, b => fEq a b
def fEqZ0 : D → D → Option Bool
  | .tup a, .tup [] => some a.isEmpty
  | .lst a, .lst [] => some a.isEmpty
  | _, _ => none
def fNeZ : D → D → Option Bool
  | .tup a, .tup [] => some (!a.isEmpty)
  | .lst a, .lst [] => some (!a.isEmpty)
  | a, b => fNe a b
section
variable {Γ : Gm}
theorem e_fEqZT (a : List D) : fEqZ (.tup a) (.tup []) = some a.isEmpty := rfl
theorem e_fEqZL (a : List D) : fEqZ (.lst a) (.lst []) = some a.isEmpty := rfl
theorem e_fNeZT (a : List D) : fNeZ (.tup a) (.tup []) = some (!a.isEmpty) := rfl
theorem e_fNeZL (a : List D) : fNeZ (.lst a) (.lst []) = some (!a.isEmpty) := rfl
theorem look_seqB {K : PySem.W.Frag} {H : Hp} {L : List It} {l : List D} {x : V} {d : D} (hd : listOfD d = some l) (hS : St K H L) (lx : Look L d x) : ∃ a vs, x = .ref a ∧ SqB K H (isTup d) a vs ∧ vs.isEmpty = l.isEmpty := by
  have em : ∀ vs : List V, l.length = vs.length → vs.isEmpty = l.isEmpty := fun vs h => by
    cases l <;> cases vs <;> first | rfl | simp at h
  cases d with
  | lst l' =>
    cases hd
    obtain ⟨a, vs, e1, h1, l1, _⟩ := Look.lst hS lx
    exact ⟨a, vs, e1, h1, em vs l1⟩
  | tup l' =>
    cases hd
    obtain ⟨a, vs, e1, h1, l1, _⟩ := Look.tup hS lx
    exact ⟨a, vs, e1, h1, em vs l1⟩
  | _ => cases hd
theorem nil_of_empty {vs : List V} (h : vs.isEmpty = ([] : List D).isEmpty) : vs = [] := by
  cases vs with
  | nil => rfl
  | cons => cases h
theorem ok_eqZ0 : OkB Γ (compareOp .Eq) (bO (w2b fEqZ0)) := okb_of fun X ok H L x y d e k hS lx ly hF Q q => by
  unfold fEqZ0 at hF
  split at hF
  · obtain ⟨a, vs, e1, h1, m1⟩ := look_seqB (K := Γ.cfg.K) rfl hS lx
    obtain ⟨b, ws, e2, h2, m2⟩ := look_seqB (K := Γ.cfg.K) rfl hS ly
    subst e1 e2
    have ew := nil_of_empty m2
    subst ew
    have ek := Option.some.inj hF
    subst ek
    exact ⟨_, op_eqZ ok.room.units, true, a, b, vs, rfl, rfl, by rw [ok.hK]; exact h1, by rw [ok.hK]; exact h2, by rw [if_neg (by decide), m1]; exact q⟩
  · obtain ⟨a, vs, e1, h1, m1⟩ := look_seqB (K := Γ.cfg.K) rfl hS lx
    obtain ⟨b, ws, e2, h2, m2⟩ := look_seqB (K := Γ.cfg.K) rfl hS ly
    subst e1 e2
    have ew := nil_of_empty m2
    subst ew
    have ek := Option.some.inj hF
    subst ek
    exact ⟨_, op_eqZ ok.room.units, false, a, b, vs, rfl, rfl, by rw [ok.hK]; exact h1, by rw [ok.hK]; exact h2, by rw [if_neg (by decide), m1]; exact q⟩
  · cases hF
theorem fEqZ_or {d e : D} {k : Bool} (h : fEqZ d e = some k) : fEqZ0 d e = some k ∨ fEq d e = some k := by
  unfold fEqZ at h
  split at h
  · exact .inl h
  · exact .inl h
  · exact .inr h
theorem bO2_some {F : D → D → Option Bool} {d e : D} {o : O} (h : bO (w2b F) [d, e] = some o) : ∃ k, F d e = some k ∧ o = .d (.bl k) := by
  have h : (match F d e with | some b => some (O.d (.bl b)) | none => none) = some o := h
  cases q : F d e with
  | none => rw [q] at h; cases h
  | some k => rw [q] at h; exact ⟨k, rfl, (Option.some.inj h).symm⟩
theorem bO2_of {F : D → D → Option Bool} {d e : D} {k : Bool} (h : F d e = some k) : bO (w2b F) [d, e] = some (.d (.bl k)) := by
  show (match F d e with | some b => some (O.d (.bl b)) | none => none) = _
  rw [h]
theorem ok_eqZ : OkB Γ (compareOp .Eq) (bO (w2b fEqZ)) := fun X ok H L x y d e o hS lx ly hF Q q => by
  obtain ⟨k, h1, rfl⟩ := bO2_some hF
  rcases fEqZ_or h1 with h | h
  · exact ok_eqZ0 X ok H L x y d e _ hS lx ly (bO2_of h) Q q
  · exact ok_eq X ok H L x y d e _ hS lx ly (bO2_of h) Q q
end
end BM
set_option Elab.async false
set_option linter.all false
set_option maxRecDepth 100000
set_option maxHeartbeats 4000000
namespace BM
open PySem PySem.Spec PyProof.Rows L2
variable [Tb]
theorem okDs_map {α : Type} {f : α → D} : ∀ {l : List α}, (∀ x ∈ l, okD (f x) = true) → okDs (l.map f) = true
  | [], _ => by simp [okDs]
  | x :: r, h => by rw [List.map_cons, okDs, h x List.mem_cons_self, okDs_map fun y hy => h y (List.mem_cons_of_mem _ hy)]; rfl
theorem dpDs_map {α : Type} {f : α → D} {B : Nat} : ∀ {l : List α}, (∀ x ∈ l, dpD (f x) ≤ B) → dpDs (l.map f) ≤ B
  | [], _ => by simp [dpDs]
  | x :: r, h => by
    have h1 := h x List.mem_cons_self
    have h2 := dpDs_map fun y hy => h y (List.mem_cons_of_mem _ hy)
    rw [List.map_cons, dpDs]; omega
theorem okD_int {i : Int} (h : i.natAbs < 2 ^ 64) : okD (.int i) = true := by
  rw [okD, decide_eq_true_iff]
  by_cases h0 : i.natAbs = 0
  · rw [h0]; decide
  · have := (Nat.log2_lt h0 (k := 64)).mpr h
    omega
end BM
namespace BM
open PySem PySem.Spec PyProof.Rows L2
variable [Tb]
theorem parts_of {α : Type} {emb : α → D} {Q : α → Prop} : ∀ (ds : List D) (os : List O), os.length = ds.length → (∀ p ∈ ds.zip os, ∃ a, Q a ∧ p.2 = .d (emb a)) → ∃ l : List α, os = leaf (l.map emb) ∧ (∀ a ∈ l, Q a) ∧ l.length = ds.length
  | [], [], _, _ => ⟨[], rfl, fun a h => (nomatch h), rfl⟩
  | d :: ds, o :: os, hl, h => by
    obtain ⟨a, h1, h2⟩ := h (d, o) List.mem_cons_self
    obtain ⟨l, g1, g2, g3⟩ := parts_of ds os (by simpa using hl) fun p hp => h p (List.mem_cons_of_mem _ hp)
    have h2 : o = .d (emb a) := h2
    exact ⟨a :: l, by rw [h2, g1]; rfl, fun b hb => by
      rcases List.mem_cons.mp hb with rfl | hb
      · exact h1
      · exact g2 b hb, by rw [List.length_cons, List.length_cons, g3]⟩
  | [], _ :: _, hl, _ => by cases hl
  | _ :: _, [], hl, _ => by cases hl
theorem cut63 {l : List D} (h : l.length ≤ 63) : BM.cutD l none (some 63) = l := by
  unfold BM.cutD
  rw [show HT.sIx l.length 0 none = 0 from rfl, show HT.sIx l.length l.length (some 63) = min 63 l.length from HT.sIx_nat l.length l.length 63, List.drop_zero]
  rw [show min 63 l.length - 0 = l.length by omega]; exact List.take_length
theorem cutN {l : List D} (k : Nat) : BM.cutD l none (some (k : Nat)) = l.take k := by
  unfold BM.cutD
  rw [show HT.sIx l.length 0 none = 0 from rfl, show HT.sIx l.length l.length (some ((k : Nat) : Int)) = min k l.length from HT.sIx_nat l.length l.length k, List.drop_zero, Nat.sub_zero]
  rcases Nat.le_total k l.length with h | h
  · rw [Nat.min_eq_left h]
  · rw [Nat.min_eq_right h, List.take_length, List.take_of_length_le h]
end BM
namespace BM
open PySem PySem.Spec PyProof.Rows L2
variable [Tb]
theorem e_seqL (l : List D) : seqD (.lst l) = some l := rfl
theorem e_seqT (l : List D) : seqD (.tup l) = some l := rfl
theorem e_seqS (x : Str) : seqD (.str x) = some (sgs x) := rfl
theorem e_fListXL (l : List D) : fListX (.lst l) = some (.lst (leaf l)) := rfl
theorem e_fListXT (l : List D) : fListX (.tup l) = some (.lst (leaf l)) := rfl
/-- any value of plain signs, with a bound of its repr's weight and depth -/
def Vl (g w n : Nat) (d : D) : Prop := okA g d = true ∧ wtX d ≤ w ∧ dpX d ≤ n
theorem Vl.mono {g w n g' w' n' : Nat} {d : D} (h : Vl g w n d) (h1 : g ≤ g') (h2 : w ≤ w') (h3 : n ≤ n') : Vl g' w' n' d := ⟨okA_mono h1 h.1, Nat.le_trans h.2.1 h2, Nat.le_trans h.2.2 h3⟩
end BM
set_option Elab.async false
set_option linter.all false
set_option maxRecDepth 100000
set_option maxHeartbeats 4000000
namespace BM
open PySem PySem.Spec PyProof.Rows L2
variable [Tb]
/-- a natural number -/
abbrev dn (n : Nat) : D := .int (n : Nat)
theorem upto_nat (w : Nat) : upto 0 w = (List.range w).map dn := by
  unfold upto
  refine List.map_congr_left fun i _ => ?_
  rw [Int.zero_add]
section
variable {s : Env}
def chK (F F' : D → D → Option Bool) (mc : M O) (oa ob' : O) (s : Env) (_ : Tg mc := ⟨⟩) : Option (Bool × Env) := oo (F oa.toD ob'.toD) fun k => ifk (fun s => ob (mc s) fun oc s3 => oo (F' ob'.toD oc.toD) fun k => some (k, s3)) (fun s => some (false, s)) k s
theorem chK_eq (F F' : D → D → Option Bool) (mc : M O) (oa ob' : O) (t : Tg mc) : chK F F' mc oa ob' s t = oo (F oa.toD ob'.toD) fun k => ifk (fun s => ob (mc s) fun oc s3 => oo (F' ob'.toD oc.toD) fun k => some (k, s3)) (fun s => some (false, s)) k s := rfl
theorem e_chn (F F' : D → D → Option Bool) (ma mb mc : M O) : tChn F F' ma mb mc s = ob (ma s) fun oa s1 => ob (mb s1) fun ob' s2 => chK F F' mc oa ob' s2 := by
  unfold tChn chK ob oo
  cases ma s with
  | none => rfl
  | some p =>
    simp only
    cases mb p.2 with
    | none => rfl
    | some q =>
      simp only
      cases F p.1.toD q.1.toD with
      | none => rfl
      | some k =>
        cases k with
        | false => rfl
        | true =>
          simp only [ifk]
          cases mc q.2 with
          | none => rfl
          | some r =>
            simp only
            cases F' q.1.toD r.1.toD <;> rfl
theorem x_lcF {δ : Type} {emb : δ → D} {own : List Nat} {src : M (List D)} {g : D → M Unit} {t : M Bool} {elt : M O} {s0 s1 : Env} {f : δ → Bool} {h : δ → D} (xs : List δ) (hs : src s0 = some (xs.map emb, s1)) (h0 : wipeE s1 own = s1) (hz : xs.length ≤ sizeLine)
    (k : ∀ x ∈ xs, ∃ s2, g (emb x) s1 = some ((), s2) ∧ t s2 = some (f x, s2) ∧ (f x = true → elt s2 = some (.d (h x), s2)) ∧ wipeE s2 own = s1) : mLc own src g t elt s0 = some (.lst (leaf ((xs.filter f).map h)), s1) := by
  rw [e_lc, hs, ob_some, h0, x_lcT (emb := emb) (f := f) (h := fun x => O.d (h x)) xs k, ob_some]
  have hl : ((xs.filter f).map fun x => O.d (h x)).length ≤ sizeLine := by
    rw [List.length_map]; exact Nat.le_trans (List.length_filter_le _ _) hz
  rw [if_pos hl, leaf, List.map_map]; rfl
theorem x_lcM {δ : Type} {emb : δ → D} {own : List Nat} {src : M (List D)} {g : D → M Unit} {elt : M O} {s0 s1 : Env} {h : δ → D} (xs : List δ) (hs : src s0 = some (xs.map emb, s1)) (h0 : wipeE s1 own = s1) (hz : xs.length ≤ sizeLine)
    (k : ∀ x ∈ xs, ∃ s2, g (emb x) s1 = some ((), s2) ∧ elt s2 = some (.d (h x), s2) ∧ wipeE s2 own = s1) : mLc own src g tYes elt s0 = some (.lst (leaf (xs.map h)), s1) := by
  have e := x_lcF (emb := emb) (own := own) (src := src) (g := g) (t := tYes) (elt := elt) (f := fun _ => true) (h := h) xs hs h0 hz fun x hx => by
    obtain ⟨s2, h1, h2, h3⟩ := k x hx
    exact ⟨s2, h1, rfl, fun _ => h2, h3⟩
  rw [e, List.filter_eq_self.mpr fun _ _ => rfl]
def zipK (a b : O) (s : Env) : Option (List D × Env) := match listOfD a.toD, listOfD b.toD with
  | some l1, some l2 => if l1.length = l2.length then some (zipD l1 l2, s) else none
  | _, _ => none
theorem e_zipS (a b : M O) : iZipS a b s = ob (a s) fun o1 s1 => ob (b s1) fun o2 s2 => zipK o1 o2 s2 := by
  unfold iZipS
  rw [e_args]
  unfold ob zipK
  cases a s with
  | none => rfl
  | some p =>
    simp only
    rw [e_args]
    unfold ob
    cases b p.2 with
    | none => rfl
    | some q =>
      simp only [e_args0] <;> (cases listOfD p.1.toD <;> cases listOfD q.1.toD <;> rfl)
theorem zipK_ok {a b : O} {l1 l2 : List D} (h1 : listOfD a.toD = some l1) (h2 : listOfD b.toD = some l2) (hl : l1.length = l2.length) : zipK a b s = some (zipD l1 l2, s) := by
  unfold zipK
  rw [h1, h2]
  simp only [if_pos hl]
end
theorem zipD_map {α β : Type} (f : α → D) (g : β → D) : ∀ (l1 : List α) (l2 : List β), zipD (l1.map f) (l2.map g) = (l1.zip l2).map fun p => .tup [f p.1, g p.2]
  | [], _ => by simp [zipD]
  | _ :: _, [] => by simp [zipD]
  | a :: l1, b :: l2 => by
    have ih := zipD_map f g l1 l2
    unfold zipD at *
    simp only [List.map_cons, List.zipWith_cons_cons, List.zip_cons_cons, ih]
theorem fAll_map {α : Type} (p : α → Bool) (xs : List α) : fAll (.lst (xs.map fun x => D.bl (p x))) = some (.d (.bl (xs.all p))) := by
  have h : (xs.map fun x => D.bl (p x)).all isBl = true := by rw [List.all_map, List.all_eq_true]; intro _ _; rfl
  show (if (xs.map fun x => D.bl (p x)).all isBl = true then some (O.d (.bl ((xs.map fun x => D.bl (p x)).all blD))) else none) = _
  rw [if_pos h, List.all_map]; rfl
theorem cut_to (l : List D) (k : Nat) : cutD l none (some (k : Nat)) = l.take k := cutN k
theorem cut_from (l : List D) (k : Nat) : cutD l (some (k : Nat)) none = l.drop k := by
  unfold cutD
  rw [show HT.sIx l.length 0 (some ((k : Nat) : Int)) = min k l.length from HT.sIx_nat l.length 0 k, show HT.sIx l.length l.length none = l.length from rfl]
  rcases Nat.le_total k l.length with h | h
  · rw [Nat.min_eq_left h, List.take_of_length_le (by rw [List.length_drop]; omega)]
  · rw [Nat.min_eq_right h, List.drop_of_length_le h, Nat.sub_self, List.take_zero]
theorem cut_last (l : List D) : cutD l none (some (-1)) = l.dropLast := by
  unfold cutD
  rw [show HT.sIx l.length 0 none = 0 from rfl, List.drop_zero, Nat.sub_zero, List.dropLast_eq_take]
  congr 1
  unfold HT.sIx
  simp only
  try unfold HT.clip
  try split <;> omega
end BM
set_option Elab.async false
set_option linter.all false
set_option maxRecDepth 100000
set_option maxHeartbeats 4000000
namespace BM
open PySem PySem.Spec PyProof.Rows L2
variable [Tb]
theorem fLen_s {x : Str} (h : x.length ≤ 1000000) : fLen (.str x) = some (.d (.int x.length)) := by
  show (if x.length ≤ sizeLine then some (O.d (.int x.length)) else none) = _
  rw [if_pos (by rw [sizeLine_eq]; omega)]
theorem len_cps (x : Str) : x.cps.toList.length = x.length := by show _ = x.cps.size; simp
theorem fSlH_s {x : Str} {i : Int} (h : x.length ≤ 1000000) : fSlH [.str x, .int i] = some (.d (.str (cutS x none (some i)))) := by
  show (if x.length ≤ sizeLine then some (O.d (.str (cutS x none (some i)))) else none) = _
  rw [if_pos (by rw [sizeLine_eq]; omega)]
end BM
set_option Elab.async false
set_option linter.all false
set_option maxRecDepth 100000
set_option maxHeartbeats 4000000
namespace BM
open PySem PySem.Spec PyProof.Rows L2
variable [Tb]
theorem okDs_str {l : List Str} (h : ∀ x ∈ l, asc x = true) : okDs (l.map D.str) = true := okDs_map fun x hx => by rw [okD]; exact asc_ok (h x hx)
theorem dpDs_str (l : List Str) : dpDs (l.map D.str) ≤ 0 := dpDs_map fun x _ => by simp [dpD]
end BM
set_option Elab.async false
set_option linter.all false
set_option maxRecDepth 100000
set_option maxHeartbeats 4000000
namespace BM
open PySem PySem.Spec PyProof.Rows L2
variable [Tb]
theorem asc_iff {x : Str} : asc x = true ↔ ∀ c ∈ x.cps.toList, c < 128 := by
  unfold asc
  rw [List.all_eq_true]
  exact ⟨fun h c hc => of_decide_eq_true (h c hc), fun h c hc => decide_eq_true (h c hc)⟩
/-- a loop by place -/
theorem x_forS {δ : Type} {emb : δ → D} {g : D → M Unit} {body : M Fl} {P : Nat → Env → Prop} {s0 : Env} (xs : List δ) (h0 : P 0 s0)
    (k : ∀ (i : Nat) (x : δ) (s : Env), xs[i]? = some x → P i s → ∃ s1 s2, g (emb x) s = some ((), s1) ∧ body s1 = some (.nx, s2) ∧ P (i + 1) s2) : ∃ s', forL g body (xs.map emb) s0 = some (.nx, s') ∧ P xs.length s' := by
  obtain ⟨s', h1, h2⟩ := x_for (ds := xs.map emb) (g := g) (body := body) (P := P) (i := 0) h0 fun j d s hd p => by
    rw [List.getElem?_map] at hd
    cases e : xs[j]? with
    | none => rw [e] at hd; cases hd
    | some x =>
      rw [e] at hd
      cases (Option.some.inj hd)
      rw [Nat.zero_add] at p ⊢
      exact k j x s e p
  refine ⟨s', h1, ?_⟩
  rw [List.length_map, Nat.zero_add] at h2
  exact h2
theorem e_dct0 (s : Env) : mDct0 s = some (.dct [] [], s) := rfl
end BM
set_option Elab.async false
set_option linter.all false
set_option maxRecDepth 100000
set_option maxHeartbeats 4000000
namespace BM
open PySem PySem.Spec PyProof.Rows L2
end BM
set_option Elab.async false
set_option linter.all false
set_option maxRecDepth 100000
set_option maxHeartbeats 4000000
namespace BM
open PySem PySem.Spec PyProof.Rows L2
end BM
set_option Elab.async false
set_option linter.all false
set_option maxRecDepth 100000
set_option maxHeartbeats 4000000
namespace BM
open PySem PySem.Spec PyProof.Rows L2
end BM
set_option Elab.async false
set_option linter.all false
set_option maxRecDepth 100000
set_option maxHeartbeats 4000000
namespace BM
open PySem PySem.Spec PyProof.Rows L2
variable [Tb]
/-- a zip on its way, while the list S is filled -/
def ZW (h : Heap) (z TI TO i1 i2 l1 l2 S : Addr) (xs ys : Array Value) (i : Nat) : Prop :=
  IsPair h TI (.ref i1) (.ref i2) ∧ h.IsListIter i1 l1 i ∧ h.IsListIter i2 l2 i ∧ h.IsList l1 xs ∧ h.IsList l2 ys ∧
    ((IsZip h z TI TO .none ∧ ∃ a b, IsPair h TO a b) ∨ ∃ T f oT, IsZipHeld h z TI TO T f ∧ h.get? T = some oT ∧ T ≠ z ∧ T ≠ i1 ∧ T ≠ i2 ∧ T ≠ S)
theorem ZW.keep {h h' : Heap} {z TI TO i1 i2 l1 l2 S : Addr} {xs ys : Array Value} {i : Nat} (st : ZW h z TI TO i1 i2 l1 l2 S xs ys i) (hk : ∀ b o, b ≠ S → h.get? b = some o → h'.get? b = some o)
    (n1 : z ≠ S) (n2 : TI ≠ S) (n3 : TO ≠ S) (n4 : i1 ≠ S) (n5 : i2 ≠ S) (n6 : l1 ≠ S) (n7 : l2 ≠ S) : ZW h' z TI TO i1 i2 l1 l2 S xs ys i := by
  obtain ⟨hTI, h1, h2, hl1, hl2, hz⟩ := st
  refine ⟨hk _ _ n2 hTI, h1.at fun o e => hk _ o n4 e, h2.at fun o e => hk _ o n5 e, hl1.at fun o e => hk _ o n6 e, hl2.at fun o e => hk _ o n7 e, ?_⟩
  rcases hz with ⟨hz, a, b, hTO⟩ | ⟨T, f, oT, hz, hT, r1, r2, r3, r4⟩
  · exact .inl ⟨hk _ _ n1 hz, a, b, hk _ _ n3 hTO⟩
  · exact .inr ⟨T, f, oT, hk _ _ n1 hz, hk _ _ r4 hT, r1, r2, r3, r4⟩
section
variable {prog : Program} {w : World} {A : Around} {E : Value → Shared → Prop} {s : Shared} {R : Result → Shared → Prop} {z TI TO i1 i2 l1 l2 S : Addr} {xs ys : Array Value}
/-- what has been collected -/
structure ZG (xs ys : Array Value) (lo : Addr) (h : Heap) (as : List Addr) : Prop where
  rise : as.Pairwise (· < ·)
  above : ∀ a ∈ as, lo < a
  pairs : ∀ (j : Nat) (a : Addr), as[j]? = some a → ∃ x y, xs[j]? = some x ∧ ys[j]? = some y ∧ IsPair h a x y
theorem ZG.there {lo : Addr} {h : Heap} {as : List Addr} (g : ZG xs ys lo h as) {a : Addr} (ha : a ∈ as) : a < h.objs.size := by
  obtain ⟨j, hj⟩ := List.mem_iff_getElem?.mp ha
  obtain ⟨_, _, _, _, e⟩ := g.pairs j a hj
  exact Heap.lt_size e
end
end BM
set_option Elab.async false
set_option linter.all false
set_option maxRecDepth 100000
set_option maxHeartbeats 4000000
namespace BM
open PySem PySem.Spec PyProof.Rows L2
variable [Tb]
/-- list(zip(x, y)), two lists -/
def mZipL (m1 m2 : M O) : M O := fun s => match mArgs [m1, m2] s with
  | some ([o1, o2], s') => match o1.toD, o2.toD with
    | .lst l1, .lst l2 => some (.lst (leaf (zipD l1 l2)), s')
    | _, _ => none
  | _ => none
end BM
set_option Elab.async false
set_option linter.all false
set_option maxRecDepth 100000
set_option maxHeartbeats 4000000
namespace BM
open PySem PySem.Spec PyProof.Rows L2 RZ
variable [Tb]
/-- zip(x, y), two tuples -/
def iZipT (m1 m2 : M O) : M (List D) := fun s => match mArgs [m1, m2] s with
  | some ([o1, o2], s') => match o1.toD, o2.toD with
    | .tup l1, .tup l2 => some (zipD l1 l2, s')
    | _, _ => none
  | _ => none
def fLower (d : D) : Option O := match d with
  | .str x => if x.length ≤ 5592405 then some (.d (.str (Txt.lower x))) else none
  | _ => none
def mLower (m : M O) : M O := fun s => match m s with
  | some (o, s') => match fLower o.toD with
    | some r => some (r, s')
    | none => none
  | none => none
theorem e_lower (m : M O) (s : Env) : mLower m s = ob (m s) fun o s' => oo (fLower o.toD) fun r => some (r, s') := by
  unfold mLower ob oo
  cases m s with
  | none => rfl
  | some p => simp only; cases fLower p.1.toD <;> rfl
end BM
set_option Elab.async false
set_option linter.all false
set_option maxRecDepth 100000
set_option maxHeartbeats 4000000
namespace BM
open PySem PySem.Spec PyProof.Rows L2
variable [Tb]
abbrev LCt : Str := ("abcdefghijklmnopqrstuvwxyz" : Str)
abbrev UCt : Str := ("ABCDEFGHIJKLMNOPQRSTUVWXYZ" : Str)
def inLt (L : Str) (c : Nat) : Bool := !(Builtin.Str.occurrences L ⟨#[c]⟩ 0 L.length 1).isEmpty
def wordT (L x : Str) : Bool := decide (1 ≤ x.length) && decide (x.length ≤ 8) && x.cps.toList.all (inLt L)
structure NmT (x : Str) : Prop where
  l1 : 1 ≤ x.length
  l8 : x.length ≤ 8
  cs : ∀ c ∈ x.cps.toList, 97 ≤ c ∧ c ≤ 122
structure MkT (x : Str) : Prop where
  l1 : 1 ≤ x.length
  l8 : x.length ≤ 8
  cs : ∀ c ∈ x.cps.toList, 65 ≤ c ∧ c ≤ 90
theorem in_lc {c : Nat} (h : 97 ≤ c ∧ c ≤ 122) : inLt LCt c = true := by
  have t : ((List.range 26).all fun k => inLt LCt (97 + k)) = true := by decide +kernel
  have e := List.all_eq_true.mp t (c - 97) (List.mem_range.mpr (by omega))
  rw [show 97 + (c - 97) = c by omega] at e
  exact e
theorem in_uc {c : Nat} (h : 65 ≤ c ∧ c ≤ 90) : inLt UCt c = true := by
  have t : ((List.range 26).all fun k => inLt UCt (65 + k)) = true := by decide +kernel
  have e := List.all_eq_true.mp t (c - 65) (List.mem_range.mpr (by omega))
  rw [show 65 + (c - 65) = c by omega] at e
  exact e
theorem NmT.word {x : Str} (h : NmT x) : wordT LCt x = true := by
  unfold wordT
  rw [decide_eq_true h.l1, decide_eq_true h.l8, List.all_eq_true.mpr fun c hc => in_lc (h.cs c hc)]; rfl
theorem MkT.word {x : Str} (h : MkT x) : wordT UCt x = true := by
  unfold wordT
  rw [decide_eq_true h.l1, decide_eq_true h.l8, List.all_eq_true.mpr fun c hc => in_uc (h.cs c hc)]; rfl
theorem NmT.asc {x : Str} (h : NmT x) : BM.asc x = true := asc_iff.mpr fun c hc => by have := h.cs c hc; omega
theorem MkT.asc {x : Str} (h : MkT x) : BM.asc x = true := asc_iff.mpr fun c hc => by have := h.cs c hc; omega
theorem up_flat : ∀ l : List Nat, (∀ c ∈ l, 97 ≤ c ∧ c ≤ 122) → (l.map fun c => Unicode.upperOf c).flatten = l.map fun c => c - 32
  | [], _ => rfl
  | c :: l, h => by
    have hc := h c List.mem_cons_self
    rw [List.map_cons, List.flatten_cons, upperOf_ascii c (by omega), up_flat l fun x hx => h x (List.mem_cons_of_mem _ hx), List.map_cons]
    unfold up1
    rw [if_pos hc]; rfl
theorem NmT.up_cps {x : Str} (h : NmT x) : (Txt.upper x).cps.toList = x.cps.toList.map fun c => c - 32 := by
  rw [BM.up_cps, up_flat _ h.cs]
theorem NmT.up {x : Str} (h : NmT x) : MkT (Txt.upper x) := by
  have e := (asc_up h.asc).2
  refine ⟨by rw [e]; exact h.l1, by rw [e]; exact h.l8, fun c hc => ?_⟩
  rw [h.up_cps] at hc
  obtain ⟨d, hd, rfl⟩ := List.mem_map.mp hc
  have := h.cs d hd
  show 65 ≤ d - 32 ∧ d - 32 ≤ 90
  omega
theorem lt_sub : ∀ {l m : List Nat}, (∀ c ∈ l, 97 ≤ c ∧ c ≤ 122) → (∀ c ∈ m, 97 ≤ c ∧ c ≤ 122) → l < m → (l.map fun c => c - 32) < m.map fun c => c - 32
  | _, [], _, _, h => absurd h (List.not_lt_nil _)
  | [], _ :: _, _, _, _ => List.nil_lt_cons _ _
  | a :: l, b :: m, hl, hm, h => by
    have ha := hl a List.mem_cons_self
    have hb := hm b List.mem_cons_self
    rw [List.map_cons, List.map_cons]
    rcases List.cons_lt_cons_iff.mp h with h | ⟨rfl, h2⟩
    · exact List.cons_lt_cons_iff.mpr (.inl (by omega))
    · exact List.cons_lt_cons_iff.mpr (.inr ⟨rfl, lt_sub (fun c hc => hl c (List.mem_cons_of_mem _ hc)) (fun c hc => hm c (List.mem_cons_of_mem _ hc)) h2⟩)
theorem sLt_up {a b : Str} (ha : NmT a) (hb : NmT b) (h : sLt a b = true) : sLt (Txt.upper a) (Txt.upper b) = true := by
  unfold sLt at *
  rw [ha.up_cps, hb.up_cps]
  exact decide_eq_true (lt_sub ha.cs hb.cs (of_decide_eq_true h))
theorem asc_ups {xs : List Str} (h : Asc xs) (hn : ∀ x ∈ xs, NmT x) : Asc (xs.map Txt.upper) := by
  unfold Asc at *
  rw [List.pairwise_map]
  exact List.Pairwise.imp_of_mem (fun ha hb h => sLt_up (hn _ ha) (hn _ hb) h) h
def risT (xs : List Str) : Bool := (xs.dropLast.zip (xs.drop 1)).all fun p => sLt p.1 p.2
theorem asc_ris {xs : List Str} (h : Asc xs) : risT xs = true := by
  unfold risT
  refine List.all_eq_true.mpr fun p hp => ?_
  obtain ⟨i, hi, e⟩ := List.getElem_of_mem hp
  have hi' : i + 1 < xs.length := by simp at hi; omega
  rw [List.getElem_zip] at e
  subst e
  rw [List.getElem_dropLast, List.getElem_drop]
  have := List.pairwise_iff_getElem.mp h i (1 + i) (by omega) (by omega) (by omega)
  exact this
/-- so many names, ascending -/
structure NmsT (many : Nat) (xs : List Str) : Prop where
  len : xs.length = many
  nm : ∀ x ∈ xs, NmT x
  asc : Asc xs
/-- so many marks, ascending -/
structure MksT (many : Nat) (xs : List Str) : Prop where
  len : xs.length = many
  mks : ∀ x ∈ xs, MkT x
  asc : Asc xs
theorem NmsT.up {many : Nat} {xs : List Str} (h : NmsT many xs) : MksT many (xs.map Txt.upper) := ⟨by rw [List.length_map]; exact h.len, fun x hx => by
  obtain ⟨y, hy, rfl⟩ := List.mem_map.mp hx
  exact (h.nm y hy).up, asc_ups h.asc h.nm⟩
end BM
set_option Elab.async false
set_option linter.all false
set_option maxRecDepth 100000
set_option maxHeartbeats 4000000
namespace BM
open PySem PySem.Spec PyProof.Rows L2
end BM
set_option Elab.async false
set_option linter.all false
set_option maxRecDepth 100000
set_option maxHeartbeats 4000000
namespace BM
open PySem PySem.Spec PyProof.Rows L2
variable [Tb]
section
variable {s : Env}
def zipLK (a b : O) (s : Env) : Option (O × Env) := match a.toD, b.toD with
  | .lst l1, .lst l2 => some (.lst (leaf (zipD l1 l2)), s)
  | _, _ => none
theorem e_zipL (a b : M O) : mZipL a b s = ob (a s) fun o1 s1 => ob (b s1) fun o2 s2 => zipLK o1 o2 s2 := by
  unfold mZipL
  rw [e_args]
  unfold ob zipLK
  cases a s with
  | none => rfl
  | some p =>
    simp only
    rw [e_args]
    unfold ob
    cases b p.2 with
    | none => rfl
    | some q =>
      simp only [e_args0] <;> (cases p.1.toD <;> cases q.1.toD <;> rfl)
def zipTK (a b : O) (s : Env) : Option (List D × Env) := match a.toD, b.toD with
  | .tup l1, .tup l2 => some (zipD l1 l2, s)
  | _, _ => none
theorem e_zipT (a b : M O) : iZipT a b s = ob (a s) fun o1 s1 => ob (b s1) fun o2 s2 => zipTK o1 o2 s2 := by
  unfold iZipT
  rw [e_args]
  unfold ob zipTK
  cases a s with
  | none => rfl
  | some p =>
    simp only
    rw [e_args]
    unfold ob
    cases b p.2 with
    | none => rfl
    | some q =>
      simp only [e_args0] <;> (cases p.1.toD <;> cases q.1.toD <;> rfl)
end
end BM
set_option Elab.async false
set_option linter.all false
set_option maxRecDepth 100000
set_option maxHeartbeats 4000000
namespace BM
open PySem PySem.Spec PyProof.Rows L2
end BM
set_option Elab.async false
set_option linter.all false
set_option maxRecDepth 100000
set_option maxHeartbeats 4000000
namespace BM
open PySem PySem.Spec PyProof.Rows L2
variable [Tb]
theorem tuple_mul1 (l : Addr) (items : Array Value) (n : Nat) (dd : Option Addr) (sl : Array (Option Value)) (u : Tok) :
    Meets (Builtin.«tuple.__mul__» ⟨[.ref l, .int 1 u], []⟩) (fun _ R s => s.heap.get? l = some { cls := .type "tuple", dict := dd, data := .seq items n, slots := sl } ∧ R (.ok (.ret (Value.ref l))) s) :=
  .of_wp fun prog w A R s h => by
    obtain ⟨hp, g, d, tk, os⟩ := s
    obtain ⟨hl, h⟩ := h
    have f1 := AutoSeq1.idx_int
    have c0 : (decide ((1 : Int) < -(2 ^ 63)) || decide ((1 : Int) ≥ 2 ^ 63)) = false := by decide
    have c1 : (items.isEmpty || (1 : Int) == 1) = true := by rw [Bool.or_comm]; rfl
    wp_walk using wpAny_loadPart' hl
    repeat (first
      | (refine wpAny_ite_false (decide_eq_false (by rw [c0]; exact Bool.false_ne_true)) ?_; wp_walk using wpAny_loadPart' hl)
      | (refine wpAny_ite_true (decide_eq_true (by rw [c1])) ?_; wp_walk using wpAny_loadPart' hl))
    exact ⟨_, rfl, h⟩
theorem tuple_mul0 (l : Addr) (items : Array Value) (n : Nat) (dd : Option Addr) (sl : Array (Option Value)) (u : Tok) (hne : items.isEmpty = false) :
    Meets (Builtin.«tuple.__mul__» ⟨[.ref l, .int 0 u], []⟩) (fun _ R s => s.heap.get? l = some { cls := .type "tuple", dict := dd, data := .seq items n, slots := sl } ∧
      R (.ok (.ret (Value.ref s.heap.objs.size))) { s with heap := s.heap.push { cls := Value.type "tuple", data := Data.seq #[] }, toks := s.toks }) :=
  .of_wp fun prog w A R s h => by
    obtain ⟨hp, g, d, tk, os⟩ := s
    obtain ⟨hl, h⟩ := h
    have f1 := AutoSeq1.idx_int
    have c0 : (decide ((0 : Int) < -(2 ^ 63)) || decide ((0 : Int) ≥ 2 ^ 63)) = false := by decide
    have c1 : (items.isEmpty || (0 : Int) == 1) = false := by rw [hne]; rfl
    have c2 : (decide ((0 : Int) ≤ 0) || items.isEmpty) = true := by rw [hne]; rfl
    wp_walk using wpAny_loadPart' hl
    repeat (first
      | (refine wpAny_ite_false (decide_eq_false (by rw [c0]; exact Bool.false_ne_true)) ?_; wp_walk using wpAny_loadPart' hl)
      | (refine wpAny_ite_false (decide_eq_false (by rw [c1]; exact Bool.false_ne_true)) ?_; wp_walk using wpAny_loadPart' hl)
      | (refine wpAny_ite_true (decide_eq_true (by rw [c2])) ?_; wp_walk using wpAny_loadPart' hl))
    exact ⟨_, rfl, h⟩
def rRep01 (K : PySem.W.Frag) : R2 := fun x y H Q => ∃ l k xs, x = .ref l ∧ y = .int k ∧ SqT K H l xs ∧ xs ≠ [] ∧ ((k = 1 ∧ Q (.ref l) H) ∨ (k = 0 ∧ ∀ p, H p = none → Q (.ref p) (upd H p (.tup []))))
section
variable {X : Cx}
theorem op_rep01 : OpR X (binaryOp .Mult) (rRep01 X.K) := by
  intro pins s σ H x y v u Q I rx ry h
  obtain ⟨l, k, xs, rfl, rfl, hT, hne, q⟩ := h
  cases rx
  obtain ⟨t, rfl⟩ := ry
  obtain ⟨its, r, ⟨⟨cls, dd, data, sl⟩, ho, hc, n, hd⟩, hs⟩ := I.tuple hT
  simp only at hc hd
  subst hc hd
  have hle : its.length = xs.length := r.length.symm
  have hn : its ≠ [] := fun e => hne (by
    rw [e] at hle
    exact List.eq_nil_of_length_eq_zero hle.symm)
  have hi : its.toArray.isEmpty = false := by
    cases its with
    | nil => exact absurd rfl hn
    | cons a b => rfl
  rcases q with ⟨rfl, q⟩ | ⟨rfl, q⟩
  · refine wpAny_binaryOp_repeat_ref (T := "tuple") (U := "int") (by decide) ⟨_, ho, rfl⟩ (fun s' => typeIs_int s' 1 t) noFill_tuple_mul F.fills_int_mul F.slot_int_rmul repeat_tuple F.slot_int_index.lookup
      (call_meets F.slot_int_rmul (typeIs_int s 1 t) F.entry_int_rmul (F.args_int_rmul_2 _ _) (int_rmul_tuple 1 t l its.toArray n dd sl)
        ⟨ho, rfl, ⟨_, ho, rfl⟩, call_meets F.slot_tuple_mul ⟨_, ho, rfl⟩ F.entry_tuple_mul (F.args_tuple_mul_2 _ _) (tuple_mul1 l its.toArray n dd sl t) ⟨ho, ?_⟩⟩)
    exact ⟨.ref l, H, I, rfl, q⟩
  · refine wpAny_binaryOp_repeat_ref (T := "tuple") (U := "int") (by decide) ⟨_, ho, rfl⟩ (fun s' => typeIs_int s' 0 t) noFill_tuple_mul F.fills_int_mul F.slot_int_rmul repeat_tuple F.slot_int_index.lookup
      (call_meets F.slot_int_rmul (typeIs_int s 0 t) F.entry_int_rmul (F.args_int_rmul_2 _ _) (int_rmul_tuple 0 t l its.toArray n dd sl)
        ⟨ho, rfl, ⟨_, ho, rfl⟩, call_meets F.slot_tuple_mul ⟨_, ho, rfl⟩ F.entry_tuple_mul (F.args_tuple_mul_2 _ _) (tuple_mul0 l its.toArray n dd sl t hi) ⟨ho, ?_⟩⟩)
    refine ⟨.ref s.heap.objs.size, _, I.laid (t' := s.toks) (o := .tup []) (fun b ob q => Heap.get?_push_of_some _ q) (Nat.le_refl _) ?_, rfl, q _ (I.hok.fresh (Nat.le_refl _))⟩
    exact ⟨by rw [sizeLine_eq]; simp, [], .nil, IsTup.new _ _⟩
end
def fMulY : D → D → Option O
  | .tup a, .int k => if a ≠ [] ∧ k = 0 then some (.d (.tup [])) else if a ≠ [] ∧ k = 1 then some (.d (.tup a)) else fMul (.tup a) (.int k)
  | a, b => fMulX a b
section
variable {Γ : Gm}
theorem ok_mulY : OkB Γ (binaryOp .Mult) (w2 fMulY) := okB_of fun X ok H L x y d e o hS lx ly hF Q q => by
  unfold fMulY at hF
  split at hF
  · rename_i a k
    split at hF
    · rename_i hz
      have e1 := Option.some.inj hF
      subst e1
      obtain ⟨p, vs, e1, h1, l1, s1⟩ := Look.tup hS lx
      subst e1
      refine ⟨_, op_rep01, p, k, vs, rfl, ly.int hS, by rw [ok.hK]; exact h1, fun e => hz.1 ?_, .inr ⟨hz.2, fun z hz => q _ _ ?_⟩⟩
      · subst e
        exact List.eq_nil_of_length_eq_zero l1
      · exact St.newTup (ds := []) (vs := []) rfl hz hS
    · split at hF
      · rename_i _ hz
        have e1 := Option.some.inj hF
        subst e1
        obtain ⟨p, vs, e1, h1, l1, s1⟩ := Look.tup hS lx
        refine ⟨_, op_rep01, p, k, vs, e1, ly.int hS, by rw [ok.hK]; exact h1, fun e => hz.1 ?_, .inl ⟨hz.2, q _ _ ?_⟩⟩
        · subst e
          exact List.eq_nil_of_length_eq_zero l1
        · rw [← e1]; exact Look.tupSt lx hS
      · exact ok_mul X ok H L x y (.tup a) (.int k) o hS lx ly hF Q q
  · exact ok_mulX X ok H L x y d e o hS lx ly hF Q q
theorem fMulY_ok {a : List D} (h0 : a ≠ []) (hz : a.length ≤ 1000) {k : Nat} (hk : k ≤ 1000) : fMulY (.tup a) (.int ((k : Nat) : Int)) = some (.d (.tup (List.replicate k a).flatten)) := by
  show (if a ≠ [] ∧ ((k : Nat) : Int) = 0 then some (O.d (.tup [])) else if a ≠ [] ∧ ((k : Nat) : Int) = 1 then some (O.d (.tup a)) else fMul (.tup a) (.int ((k : Nat) : Int))) = _
  by_cases h : k = 0
  · subst h
    rw [if_pos ⟨h0, rfl⟩]; rfl
  · rw [if_neg (by omega)]
    by_cases h1 : k = 1
    · subst h1
      rw [if_pos ⟨h0, rfl⟩]; simp
    · rw [if_neg (by omega)]
      show (if a ≠ [] ∧ (2 : Int) ≤ k ∧ (k : Int) ≤ 1000 ∧ a.length ≤ 1000 then some (O.d (.tup (List.replicate (k : Int).toNat a).flatten)) else none) = _
      rw [if_pos ⟨h0, by omega, by omega, hz⟩]; rfl
end
end BM
set_option Elab.async false
set_option linter.all false
set_option maxRecDepth 100000
set_option maxHeartbeats 4000000
namespace BM
open PySem PySem.Spec PyProof.Rows L2
variable [Tb]
section
variable {Γ : Gm}
/-- a value, frozen -/
def mFr (m : M O) : M O := fun s => match m s with
  | some (o, s') => some (.d o.toD, s')
  | none => none
theorem e_fr (m : M O) (s : Env) : mFr m s = ob (m s) fun o s' => some (.d o.toD, s') := by
  unfold mFr ob
  cases m s <;> rfl
variable {e : Expr} {m : M O}
end
end BM
set_option Elab.async false
set_option linter.all false
set_option maxRecDepth 100000
set_option maxHeartbeats 4000000
namespace BM
open PySem PySem.Spec PyProof.Rows L2
variable [Tb]
mutual
def okV : D → Bool
  | .non => true
  | .bl _ => true
  | .int i => decide (i.natAbs.log2 < 1920)
  | .str x => asc x
  | .tup l => okVs l
  | .lst l => okVs l
  | .dct l => l.isEmpty
  | _ => false
def okVs : List D → Bool
  | [] => true
  | x :: r => okV x && okVs r
end
theorem okVs_iff : ∀ {l : List D}, okVs l = true ↔ ∀ x ∈ l, okV x = true
  | [] => by simp [okVs]
  | x :: r => by
    rw [okVs, Bool.and_eq_true, okVs_iff (l := r)]
    simp
theorem dpXs_le {l : List D} {n : Nat} : dpXs l ≤ n ↔ ∀ x ∈ l, dpX x ≤ n := by
  induction l with
  | nil => simp [dpXs]
  | cons x r ih =>
    rw [dpXs, Nat.max_le, ih]
    simp
def tlD : D → Nat
  | .tup l => l.length
  | _ => 0
/-- r comes of d by one change -/
structure Bt (d r : D) : Prop where
  ok : okV r = true
  wt : wtX r ≤ 2 * wtX d + 3000
  dp : dpX r ≤ dpX d + 1
  tl : tlD r ≤ tlD d + 1
/-- other parts, fewer -/
theorem Bt.tup {l m : List D} (hl : okV (.tup l) = true) (hm : ∀ x ∈ m, x ∈ l) (hw : wtXs m ≤ 2 * wtXs l + 3000) (ht : m.length ≤ l.length + 1) : Bt (.tup l) (.tup m) := by
  rw [okV] at hl
  have ha := okVs_iff.mp hl
  refine ⟨by rw [okV]; exact okVs_iff.mpr fun x hx => ha x (hm x hx), by rw [wtX, wtX]; omega, ?_, ht⟩
  rw [dpX, dpX]
  have := (dpXs_le (l := m) (n := dpXs l)).mpr fun x hx => (dpXs_le (l := l) (n := dpXs l)).mp (Nat.le_refl _) x (hm x hx)
  omega
theorem Bt.lst {l : List D} (hl : okV (.tup l) = true) : Bt (.tup l) (.lst l) := by
  rw [okV] at hl
  exact ⟨by rw [okV]; exact hl, by rw [wtX, wtX]; omega, by rw [dpX, dpX]; omega, by show 0 ≤ _; omega⟩
end BM
set_option Elab.async false
set_option linter.all false
set_option maxRecDepth 100000
set_option maxHeartbeats 4000000
namespace BM
open PySem PySem.Spec PyProof.Rows L2
end BM
set_option Elab.async false
set_option linter.all false
set_option maxRecDepth 100000
set_option maxHeartbeats 4000000
namespace BM
open PySem PySem.Spec PyProof.Rows L2 PpSet
end BM
set_option Elab.async false
set_option linter.all false
set_option maxRecDepth 100000
set_option maxHeartbeats 4000000
namespace BM
open PySem PySem.Spec PyProof.Rows L2 PpSet
end BM
set_option Elab.async false
set_option linter.all false
set_option maxRecDepth 100000
namespace BM
def xq : Nat → Nat
  | 0 => 0
  | n + 1 => 5 * xq n + 1
theorem xq_add (n : Nat) : ∀ m, xq (n + m) = 5 ^ m * xq n + xq m
  | 0 => by simp [xq]
  | m + 1 => by
    show 5 * xq (n + m) + 1 = 5 ^ (m + 1) * xq n + (5 * xq m + 1)
    rw [xq_add n m, Nat.pow_succ, Nat.mul_add, ← Nat.mul_assoc, Nat.mul_comm 5 (5 ^ m)]
    omega
theorem pow5 : ∀ k : Nat, ∃ t, 5 ^ (2 ^ k) = 1 + 2 ^ (k + 2) * t
  | 0 => ⟨1, by decide⟩
  | k + 1 => by
    obtain ⟨t, e⟩ := pow5 k
    refine ⟨t + 2 ^ (k + 1) * t * t, ?_⟩
    have e2 : 5 ^ (2 ^ (k + 1)) = 5 ^ (2 ^ k) * 5 ^ (2 ^ k) := by
      rw [← Nat.pow_add, Nat.pow_succ, Nat.mul_two]
    rw [e2, e]
    have p2 : 2 ^ (k + 1 + 2) = 2 * 2 ^ (k + 2) := by rw [Nat.pow_succ 2 (k + 2), Nat.mul_comm]
    have p3 : 2 ^ (k + 2) * 2 ^ (k + 2) = 2 * 2 ^ (k + 2) * 2 ^ (k + 1) := by
      have : 2 ^ (k + 2) = 2 * 2 ^ (k + 1) := by rw [Nat.pow_succ 2 (k + 1), Nat.mul_comm]
      rw [this]
      simp [Nat.mul_assoc, Nat.mul_comm, Nat.mul_left_comm]
    rw [p2]
    generalize 2 ^ (k + 2) = A at *
    generalize 2 ^ (k + 1) = B at *
    have : (1 + A * t) * (1 + A * t) = 1 + 2 * A * t + A * A * (t * t) := by
      have h1 : A * t * (A * t) = A * A * (t * t) := by simp [Nat.mul_assoc, Nat.mul_comm, Nat.mul_left_comm]
      have h2 : 2 * A * t = A * t + A * t := by rw [Nat.mul_assoc, Nat.two_mul]
      have h3 : ∀ x : Nat, (1 + x) * (1 + x) = 1 + (x + x) + x * x := fun x => by
        rw [Nat.add_mul, Nat.one_mul, Nat.mul_add, Nat.mul_one]; omega
      rw [h3, h1, h2]
    rw [this, p3]
    have : 2 * A * (t + B * t * t) = 2 * A * t + 2 * A * B * (t * t) := by
      rw [Nat.mul_add]
      congr 1
      simp [Nat.mul_assoc, Nat.mul_comm, Nat.mul_left_comm]
    rw [this]
    omega
theorem xq_pow : ∀ k : Nat, ∃ t, xq (2 ^ k) = 2 ^ k + 2 ^ (k + 1) * t
  | 0 => ⟨0, by decide⟩
  | k + 1 => by
    obtain ⟨t, e⟩ := xq_pow k
    obtain ⟨u, e5⟩ := pow5 k
    have e2 : xq (2 ^ (k + 1)) = 5 ^ (2 ^ k) * xq (2 ^ k) + xq (2 ^ k) := by
      rw [← xq_add, Nat.pow_succ, Nat.mul_two]
    rw [e2, e5, e]
    have p1 : 2 ^ (k + 1) = 2 * 2 ^ k := by rw [Nat.pow_succ, Nat.mul_comm]
    have p2 : 2 ^ (k + 2) = 4 * 2 ^ k := by rw [Nat.pow_succ, Nat.pow_succ]; omega
    have p3 : 2 ^ (k + 1 + 1) = 4 * 2 ^ k := by rw [show k + 1 + 1 = k + 2 from rfl, p2]
    rw [p3, p1]
    generalize 2 ^ k = B
    refine ⟨t + u * B + u * 2 * B * t, ?_⟩
    have h1 : (1 + 4 * B * u) * (B + 2 * B * t) = (B + 2 * B * t) + 4 * B * (u * B) + 4 * B * (u * 2 * B * t) := by
      rw [Nat.add_mul, Nat.one_mul, Nat.mul_add]
      have a : 4 * B * u * B = 4 * B * (u * B) := by rw [Nat.mul_assoc]
      have b : 4 * B * u * (2 * B * t) = 4 * B * (u * 2 * B * t) := by simp [Nat.mul_assoc]
      rw [a, b]; omega
    rw [h1, Nat.mul_add, Nat.mul_add]
    have h2 : 2 * B * t + 2 * B * t = 4 * B * t := by
      rw [← Nat.add_mul]; congr 1; omega
    omega
/-- each number below 2^k is met within a round -/
theorem xq_hit : ∀ (k j : Nat), j < 2 ^ k → ∃ n, n < 2 ^ k ∧ xq n % 2 ^ k = j
  | 0, j, h => ⟨0, by decide, by simp at h; subst h; rfl⟩
  | k + 1, j, h => by
    obtain ⟨n, hn, e⟩ := xq_hit k (j % 2 ^ k) (Nat.mod_lt _ (Nat.two_pow_pos k))
    obtain ⟨t, et⟩ := xq_pow k
    obtain ⟨u, eu⟩ := pow5 k
    have p1 : 2 ^ (k + 1) = 2 * 2 ^ k := by rw [Nat.pow_succ, Nat.mul_comm]
    have hp := Nat.two_pow_pos k
    have far : xq (n + 2 ^ k) % (2 * 2 ^ k) = (xq n + 2 ^ k) % (2 * 2 ^ k) := by
      rw [xq_add, eu, et]
      have p2 : 2 ^ (k + 2) = 2 * 2 ^ k * 2 := by rw [Nat.pow_succ, Nat.pow_succ]; omega
      rw [p2, p1]
      generalize 2 ^ k = B
      have : (1 + 2 * B * 2 * u) * xq n + (B + 2 * B * t) = (xq n + B) + 2 * B * (2 * u * xq n + t) := by
        rw [Nat.add_mul, Nat.one_mul, Nat.mul_add]
        have : 2 * B * 2 * u * xq n = 2 * B * (2 * u * xq n) := by simp [Nat.mul_assoc]
        omega
      rw [this, Nat.add_mul_mod_self_left]
    rw [p1] at h ⊢
    generalize hB : 2 ^ k = B at *
    have d1 := Nat.div_add_mod (xq n) B
    have m1 : xq n % (2 * B) = xq n % B ∨ xq n % (2 * B) = xq n % B + B := by
      have z := Nat.mod_lt (xq n) (show 0 < 2 * B by omega)
      have e1 : xq n % (2 * B) % B = xq n % B := Nat.mod_mod_of_dvd _ ⟨2, by rw [Nat.mul_comm]⟩
      by_cases hc : xq n % (2 * B) < B
      · left; rw [← e1, Nat.mod_eq_of_lt hc]
      · right
        have : xq n % (2 * B) % B = xq n % (2 * B) - B := by
          rw [Nat.mod_eq_sub_mod (by omega), Nat.mod_eq_of_lt (by omega)]
        omega
    have jj : j = j % B ∨ j = j % B + B := by
      by_cases hc : j < B
      · left; rw [Nat.mod_eq_of_lt hc]
      · right; rw [Nat.mod_eq_sub_mod (by omega), Nat.mod_eq_of_lt (by omega)]; omega
    have hlt := Nat.mod_lt j hp
    have f2 : (xq n + B) % (2 * B) = (xq n % (2 * B) + B) % (2 * B) := (Nat.mod_add_mod _ _ _).symm
    rcases m1 with m | m <;> rcases jj with q | q
    · exact ⟨n, by omega, by omega⟩
    · refine ⟨n + B, by omega, ?_⟩
      rw [far, f2, m, Nat.mod_eq_of_lt (by omega)]; omega
    · refine ⟨n + B, by omega, ?_⟩
      rw [far, f2, m, e]
      have : j % B + B + B = j % B + 2 * B := by omega
      rw [this, Nat.add_mod_right, Nat.mod_eq_of_lt (by omega)]; omega
    · exact ⟨n, by omega, by omega⟩
/-- by the table's own step -/
theorem xq_step {m : Nat} {f : Nat → Nat} (h0 : f 0 = 0) (h : ∀ n, f (n + 1) = (f n * 5 + 1) % (m + 1)) : ∀ n, f n % (m + 1) = xq n % (m + 1)
  | 0 => by rw [h0]; rfl
  | n + 1 => by
    rw [h, Nat.mod_mod]
    show _ = (5 * xq n + 1) % (m + 1)
    rw [Nat.add_mod, Nat.mul_mod, xq_step h0 h n, ← Nat.mul_mod, ← Nat.add_mod, Nat.mul_comm]
end BM
set_option Elab.async false
set_option linter.all false
set_option maxRecDepth 100000
namespace BM
open PySem L2
variable [Tb]
def MaskG (m : Nat) : Prop := ∃ k, m + 1 = 2 ^ k
theorem xq_per (k n : Nat) : xq (2 ^ k + n) % 2 ^ k = xq n % 2 ^ k := by
  obtain ⟨t, e⟩ := xq_pow k
  obtain ⟨u, e5⟩ := pow5 k
  rw [Nat.add_comm, xq_add, e5, e]
  have p1 : 2 ^ (k + 1) = 2 ^ k * 2 := Nat.pow_succ ..
  have p2 : 2 ^ (k + 2) = 2 ^ k * 4 := by rw [Nat.pow_succ, Nat.pow_succ]; omega
  rw [p1, p2]
  generalize 2 ^ k = B
  have : (1 + B * 4 * u) * xq n + (B + B * 2 * t) = xq n + B * (4 * u * xq n + 1 + 2 * t) := by
    rw [Nat.add_mul, Nat.one_mul, Nat.mul_add, Nat.mul_add, Nat.mul_one]
    have a : B * 4 * u * xq n = B * (4 * u * xq n) := by simp [Nat.mul_assoc]
    have b : B * 2 * t = B * (2 * t) := by rw [Nat.mul_assoc]
    omega
  rw [this, Nat.add_mul_mod_self_left]
theorem lcgN_lt (m : Nat) : ∀ n, lcgN m n < m + 1
  | 0 => Nat.succ_pos _
  | n + 1 => Nat.mod_lt _ (Nat.succ_pos _)
theorem lcgN_xq (m n : Nat) : lcgN m n = xq n % (m + 1) := by
  have e := xq_step (m := m) (f := lcgN m) rfl (fun _ => rfl) n
  rwa [Nat.mod_eq_of_lt (lcgN_lt m n)] at e
theorem lcgI_allG {m : Nat} (hm : MaskG m) {i j : Nat} (hi : i ≤ m) (hj : j ≤ m) : ∃ k, k ≤ m ∧ lcgI m i k = j := by
  obtain ⟨p, hp⟩ := hm
  obtain ⟨a, ha, ea⟩ := xq_hit p i (by omega)
  obtain ⟨b, hb, eb⟩ := xq_hit p j (by omega)
  rw [← hp] at ea eb ha hb
  rw [← lcgN_xq] at ea eb
  subst ea
  rcases Nat.lt_or_ge b a with c | c
  · refine ⟨b + (m + 1) - a, by omega, ?_⟩
    rw [lcgN_add, show a + (b + (m + 1) - a) = m + 1 + b by omega, lcgN_xq, hp, xq_per, ← hp, ← lcgN_xq, eb]
  · refine ⟨b - a, by omega, ?_⟩
    rw [lcgN_add, show a + (b - a) = b by omega, eb]
end BM
set_option Elab.async false
set_option linter.all false
set_option maxRecDepth 100000
set_option maxHeartbeats 2000000
namespace BM
open PySem PySem.Spec PyProof.Rows L2
end BM
set_option Elab.async false
set_option linter.all false
set_option maxRecDepth 100000
set_option maxHeartbeats 2000000
namespace BM
open PySem L2
variable [Tb]
structure TabG (t : SetTable) (hs : List Int) : Prop where
  up : Ris t.place.toList
  clean : t.dummies = #[]
  len : t.place.toList.length = hs.length
  msk : MaskG t.mask
  top : ∀ x ∈ t.place.toList, x ≤ t.mask
  found : ∀ q ∈ hs.zip t.place.toList, ∃ k, way t.mask q.1 k = q.2 ∧ ∀ k', k' < k → way t.mask q.1 k' ∈ t.place.toList
theorem way_in (m : Nat) (h : Int) (k : Nat) : way m h k ≤ m := by
  have b : SetTable.bits h % (m + 1) ≤ m := Nat.lt_succ_iff.mp (Nat.mod_lt _ (Nat.succ_pos m))
  have e := (runEnd_bd b).1
  have f := (runEnd_bd b).2.1
  have q : (nth m (runAt m (SetTable.bits h % (m + 1)) (SetTable.bits h)) k).j + (nth m (runAt m (SetTable.bits h % (m + 1)) (SetTable.bits h)) k).more ≤ m :=
    nth_in k _ (by
      show SetTable.bits h % (m + 1) + (SetTable.runEnd m (SetTable.bits h % (m + 1)) - SetTable.bits h % (m + 1)) ≤ m
      omega)
  exact Nat.le_trans (Nat.le_add_right _ _) q
theorem zip_ins {α β : Type} (l : List α) (m : List β) (e : l.length = m.length) (p : Nat) (x : α) (y : β) :
    (l.take p ++ x :: l.drop p).zip (m.take p ++ y :: m.drop p) = (l.zip m).take p ++ (x, y) :: (l.zip m).drop p := by
  rw [List.zip_append (by rw [List.length_take, List.length_take, e]), List.zip_cons_cons]
  simp only [List.zip_eq_zipWith, List.take_zipWith, List.drop_zipWith]
theorem TabG.put {t : SetTable} {hs : List Int} (T : TabG t hs) {h : Int} {K : Nat} (hK : way t.mask h K ∉ t.place.toList) (hb : ∀ k, k < K → way t.mask h k ∈ t.place.toList)
    {j p : Nat} (ej : j = way t.mask h K) (ep : p = SetTable.below t.place j) :
    (t.put j).2 = p ∧ p ≤ hs.length ∧ (t.put j).1.place.toList = t.place.toList.take p ++ j :: t.place.toList.drop p ∧ TabG (t.put j).1 (hs.take p ++ h :: hs.drop p) := by
  have pl : p ≤ t.place.toList.length := by
    rw [ep, Array.length_toList]
    exact (below_cut T.up j).1
  have ph : p ≤ hs.length := T.len ▸ pl
  have pp : (t.put j).1.place.toList = t.place.toList.take p ++ j :: t.place.toList.drop p := by
    rw [ep]
    exact put_place t j
  have sub : ∀ x ∈ t.place.toList, x ∈ (t.put j).1.place.toList := fun x hx => by
    rw [pp]
    exact mem_ins.2 (.inr hx)
  have nj : j ∉ t.place.toList := ej ▸ hK
  refine ⟨ep.symm, ph, pp, ⟨?_, put_dm T.clean j, ?_, T.msk, ?_, ?_⟩⟩
  · exact ris_insert T.up fun e => nj (List.mem_of_getElem? (by rw [Array.getElem?_toList]; exact e))
  · rw [pp, len_ins _ pl, len_ins _ ph, T.len]
  · intro x hx
    rw [pp] at hx
    rcases mem_ins.1 hx with e | e
    · subst e
      have q : x ≤ t.mask := by
        rw [ej]
        exact way_in _ _ _
      exact q
    · exact T.top x e
  · intro q hq
    rw [pp, zip_ins _ _ T.len.symm] at hq
    rcases mem_ins.1 hq with e | e
    · subst e
      exact ⟨K, ej.symm, fun k' hk' => sub _ (hb k' hk')⟩
    · obtain ⟨k, e1, e2⟩ := T.found q e
      exact ⟨k, e1, fun k' hk' => sub _ (e2 k' hk')⟩
end BM
set_option Elab.async false
set_option linter.all false
set_option maxRecDepth 100000
set_option maxHeartbeats 2000000
namespace BM
open PySem L2
variable [Tb]
theorem run_hitG {m : Nat} (hm : MaskG m) (h : Int) {j : Nat} (hj : j ≤ m) : ∃ n, n ≤ m + 12 ∧ runI m (SetTable.bits h) n = j := by
  obtain ⟨n, hn, e⟩ := lcgI_allG hm (runI_le m (SetTable.bits h) 12) hj
  exact ⟨12 + n, by omega, (runI_tail (bits_lt h) n).trans e⟩
theorem free_atG {m : Nat} (hm : MaskG m) (owner : Array (Option Nat)) (h : Int) {j : Nat} (hj : j ≤ m) (hf : oAt owner j = none) :
    ∃ K, SetTable.layClean.free m owner (SetTable.turns m) (SetTable.bits h % (m + 1)) (SetTable.bits h) = some (way m h K) ∧ oAt owner (way m h K) = none ∧ ∀ k, k < K → oAt owner (way m h k) ≠ none := by
  obtain ⟨n, hn, e⟩ := run_hitG hm h hj
  have z : oAt owner (way m h (off m (SetTable.bits h % (m + 1)) (SetTable.bits h) n)) = none := by
    unfold way
    rw [nth_off, itL_run]
    show oAt owner (runI m (SetTable.bits h) n) = none
    rw [e]
    exact hf
  obtain ⟨K, k1, k2, k3⟩ := st_least (p := fun k => oAt owner (way m h k) = none) _ z
  have k2' : oAt owner (way m h K) = none := k2
  exact ⟨K, free_spec m owner _ n _ _ K (by unfold SetTable.turns; omega) k1
    (fun k hk => Bool.eq_false_iff.mpr fun c => k3 k hk (Option.isNone_iff_eq_none.mp c)) (by show (oAt owner (way m h K)).isNone = true; rw [k2']; rfl), k2, k3⟩
/-- a table under way: the entries laid so far, each on the way of its hash, no slot for two -/
structure LaidG (m : Nat) (done : List Int) (owner : Array (Option Nat)) : Prop where
  sz : owner.size = m + 1
  hom : ∀ j k, j ≤ m → oAt owner j = some k → ∃ h K, done[k]? = some h ∧ way m h K = j ∧ ∀ k', k' < K → oAt owner (way m h k') ≠ none
  seat : ∃ ps : List Nat, ps.length = done.length ∧ (∀ j, j ≤ m → oAt owner j ≠ none → j ∈ ps) ∧ ∀ k, k < done.length → ∃ j, j ≤ m ∧ oAt owner j = some k
theorem LaidG.nil (m : Nat) : LaidG m [] (Array.replicate (m + 1) none) :=
  ⟨by simp, fun j k hj e => (nomatch (oAt_init hj).symm.trans e), [], rfl, fun j hj e => absurd (oAt_init hj) e, fun k hk => absurd hk (Nat.not_lt_zero _)⟩
theorem LaidG.next {m : Nat} (hm : MaskG m) {done : List Int} {owner : Array (Option Nat)} (W : LaidG m done owner) (hl : done.length ≤ m) (h : Int) :
    ∃ j, SetTable.layClean.free m owner (SetTable.turns m) (SetTable.bits h % (m + 1)) (SetTable.bits h) = some j ∧ LaidG m (done ++ [h]) (owner.setIfInBounds j (some done.length)) := by
  obtain ⟨sz, hom, ps, hps, hin, all⟩ := W
  obtain ⟨i, hi, ni⟩ := st_missing ps (m + 1) (by omega)
  have fi : oAt owner i = none := Classical.byContradiction fun c => ni (hin i (by omega) c)
  obtain ⟨K, e1, e2, e3⟩ := free_atG hm owner h (Nat.le_of_lt_succ hi) fi
  have wm := way_in m h K
  have self := oAt_set_self (owner := owner) (some done.length) (show way m h K < owner.size by omega)
  have out : ∀ {x : Nat}, x ≠ way m h K → oAt (owner.setIfInBounds (way m h K) (some done.length)) x = oAt owner x := fun c => oAt_set_ne _ c
  generalize hO : owner.setIfInBounds (way m h K) (some done.length) = O at self out
  have keep : ∀ {x : Nat}, oAt owner x ≠ none → oAt O x ≠ none := fun {x} hx => by
    rcases Nat.decEq x (way m h K) with c | c
    · rw [out c]; exact hx
    · rw [c, self]; exact fun z => nomatch z
  refine ⟨_, e1, ?_⟩
  rw [hO]
  refine ⟨by rw [← hO, Array.size_setIfInBounds]; exact sz, fun j k hj e => ?_, way m h K :: ps, by simp [hps], fun j hj e => ?_, fun k hk => ?_⟩
  · rcases Nat.decEq j (way m h K) with c | c
    · rw [out c] at e
      obtain ⟨h', K', a1, a2, a3⟩ := hom j k hj e
      exact ⟨h', K', by rw [List.getElem?_append_left (List.getElem?_eq_some_iff.mp a1).1]; exact a1, a2, fun k' hk' => keep (a3 k' hk')⟩
    · rw [c, self] at e
      cases e
      exact ⟨h, K, by simp, c.symm, fun k' hk' => keep (e3 k' hk')⟩
  · rcases Nat.decEq j (way m h K) with c | c
    · rw [out c] at e
      exact List.mem_cons_of_mem _ (hin j hj e)
    · exact c ▸ List.mem_cons_self
  · rcases Nat.lt_or_ge k done.length with c | c
    · obtain ⟨j, hj, e⟩ := all k c
      exact ⟨j, hj, (out fun z => by rw [z, e2] at e; cases e).trans e⟩
    · have : k = done.length := by simp at hk; omega
      exact this ▸ ⟨_, wm, self⟩
end BM
set_option Elab.async false
set_option linter.all false
set_option maxRecDepth 100000
set_option maxHeartbeats 2000000
namespace BM
open PySem L2
end BM
set_option Elab.async false
set_option linter.all false
set_option maxRecDepth 100000
set_option maxHeartbeats 2000000
namespace BM
open PySem PySem.Spec PyProof.Rows L2
variable [Tb]
section
variable {P : Program} {w : World} {A : Around} {E : Value → Shared → Prop} {s : Shared} {K : Type} [DecidableEq K] {knd : KeyKind P w K}
def rowK (knd : KeyKind P w K) (p : Addr × List K) : Int × Value := (tupleKeyHash knd p.2, Value.ref p.1)
structure SetG (knd : KeyKind P w K) (h : Heap) (a : Addr) (L : List (Addr × List K)) (es : Array (Int × Value)) (ep : Nat) (t : SetTable) : Prop where
  ob : ∃ o, h.get? a = some o ∧ o.ExactSet ∧ o.data = .set es ep t
  rows : es.toList = L.map (rowK knd)
  tab : TabG t (L.map fun p => tupleKeyHash knd p.2)
  nd : (L.map (·.2)).Nodup
  tup : ∀ p ∈ L, IsTupleKey knd h p.2 p.1
  led : w.params.followText "set-order" = true ∨ t.led = true
  room : L.length * 5 < t.mask * 3
  line : t.mask < 4096
variable {a : Addr} {L : List (Addr × List K)} {es : Array (Int × Value)} {ep : Nat} {t : SetTable}
theorem SetG.size (R : SetG knd s.heap a L es ep t) : es.size = L.length := by
  have h := congrArg List.length R.rows
  rwa [Array.length_toList, List.length_map] at h
theorem SetG.plen (R : SetG knd s.heap a L es ep t) : t.place.toList.length = L.length := R.tab.len.trans (List.length_map ..)
theorem SetG.fits (R : SetG knd s.heap a L es ep t) : t.fits es.size = true := by
  have h1 := R.plen
  have h2 := R.size
  have h3 := R.room
  rw [Array.length_toList] at h1
  unfold SetTable.fits SetTable.fill
  rw [R.tab.clean, Bool.and_eq_true, beq_iff_eq, decide_eq_true_eq]
  show t.place.size = es.size ∧ t.place.size + 0 ≤ t.mask
  omega
end
end BM
set_option Elab.async false
set_option linter.all false
set_option maxRecDepth 100000
set_option maxHeartbeats 2000000
namespace BM
open PySem PySem.Spec PyProof.Rows L2
end BM
set_option Elab.async false
set_option linter.all false
set_option maxRecDepth 100000
set_option maxHeartbeats 4000000
namespace BM
open PySem PySem.Spec PyProof.Rows L2
variable [Tb]
section
variable {P : Program} {w : World} {A : Around} {E : Value → Shared → Prop} {s : Shared} {K : Type} [DecidableEq K] {knd : KeyKind P w K}
/-- the set at a has the tuples of ks, each once -/
def TpR (knd : KeyKind P w K) (h : Heap) (a : Addr) (ks : List (Addr × List K)) : Prop :=
  ∃ L es ep t, SetG knd h a L es ep t ∧ (∀ p ∈ L, p ∈ ks) ∧ (∀ p ∈ ks, p.2 ∈ L.map (·.2)) ∧ L.length ≤ ks.length
theorem TpR.at {h h' : Heap} {a : Addr} {ks : List (Addr × List K)} (T : TpR knd h a ks) (ha : ∀ o, h.get? a = some o → h'.get? a = some o) (ht : ∀ p ∈ ks, IsTupleKey knd h' p.2 p.1) : TpR knd h' a ks := by
  obtain ⟨L, es, ep, t, ⟨⟨o, ho, r⟩, r2, r3, r4, r5, r6, r7, r8⟩, c1, c2, c3⟩ := T
  exact ⟨L, es, ep, t, ⟨⟨o, ha o ho, r⟩, r2, r3, r4, fun p hp => ht p (c1 p hp), r6, r7, r8⟩, c1, c2, c3⟩
theorem TpR.nil {h : Heap} {a : Addr} (ho : h.get? a = some { cls := .type "set", dict := none, data := .set #[] 0 (.fresh 0 0 (!w.params.followText "set-order")) }) : TpR knd h a [] := by
  refine ⟨[], #[], 0, _, ⟨⟨_, ho, ⟨rfl, rfl, rfl⟩, rfl⟩, rfl, ⟨List.Pairwise.nil, rfl, rfl, ⟨3, rfl⟩, fun x hx => (nomatch hx), fun q hq => (nomatch hq)⟩, List.nodup_nil, fun p hp => (nomatch hp), ?_, ?_, ?_⟩, fun p hp => (nomatch hp), fun p hp => (nomatch hp), Nat.le_refl _⟩
  · show _ ∨ (!w.params.followText "set-order") = true
    cases w.params.followText "set-order"
    · exact .inr rfl
    · exact .inl rfl
  · show 0 * 5 < 7 * 3
    decide
  · show 7 < 4096
    decide
end
end BM
set_option Elab.async false
set_option linter.all false
set_option maxRecDepth 100000
set_option maxHeartbeats 8000000
namespace BM
open PySem PySem.Spec PyProof.Rows L2
end BM
set_option Elab.async false
set_option linter.all false
namespace BM
end BM
set_option Elab.async false
set_option linter.all false
set_option maxRecDepth 100000
set_option maxHeartbeats 2000000
namespace BM
open PySem PySem.Spec PyProof.Rows PyProof.Rows.G L2
end BM
set_option Elab.async false
set_option linter.all false
set_option maxRecDepth 100000
set_option maxHeartbeats 2000000
namespace BM
open PySem PySem.Spec PyProof.Rows PyProof.Rows.G L2
end BM
set_option Elab.async false
set_option linter.all false
set_option maxRecDepth 100000
namespace BM
open PySem PySem.Spec PyProof.Rows PyProof.Rows.G L2
end BM
set_option Elab.async false
set_option linter.all false
set_option maxRecDepth 100000
set_option maxHeartbeats 2000000
namespace BM
open PySem PySem.Spec PyProof.Rows PyProof.Rows.G L2
end BM
set_option Elab.async false
set_option linter.all false
namespace BM
open PySem PySem.Spec PyProof.Rows L2
end BM
set_option Elab.async false
set_option linter.all false
set_option maxRecDepth 100000
set_option maxHeartbeats 2000000
namespace BM
open PySem PySem.Spec PyProof.Rows PyProof.Rows.G L2
variable [Tb]
section
variable {prog : Program} {w : World} {A : Around} {E : Value → Shared → Prop} {s : Shared} {β : Type} {vs : List Value} {bs : List β} {enc : β → PyData} {R : Value → β → Prop}
theorem collect_tupZ {l : Addr} {o : Obj} {n : Nat} {Q : List Value → Shared → Prop} (ho : s.heap.get? l = some o) (hc : o.cls = .type "tuple") (hd : o.data = .seq vs.toArray n) (hz : vs.length ≤ sizeLine)
    (h : Q vs { s with heap := (s.heap.push (seqObj "list" #[] 0)).update s.heap.objs.size (Obj.mapSeq (· ++ vs.toArray)) }) : wpAny (model prog w) A (collect (.ref l)) Q E s := by
  unfold collect
  refine wpAny_bind (wpAny_runValue (codeAny_builtin PyProof.Rows.entry_proto_collect' ?_)); show wpAny _ _ (do again (.builtin "list.__iadd__" ⟨[← newList [], .ref l], []⟩)) _ _ s
  refine wpAny_bind (wpAny_newList (wpAny_pure ⟨Code.quiet_builtin _ (by decide +kernel), codeAny_builtin PyProof.Rows.entry_list_iadd' ?_⟩)); show wpAny _ _ (Builtin.List.listExtendWith (.ref s.heap.objs.size) (.ref l) (.ref s.heap.objs.size)) _ _ { s with heap := s.heap.push (seqObj "list" #[] 0) }
  unfold Builtin.List.listExtendWith
  have hp := Heap.get?_push_of_some (seqObj "list" #[] 0) ho
  refine wpAny_bind (wpAny_typeOf (T := "tuple") ⟨o, hp, hc⟩ ?_)
  rw [if_pos (by rw [show (Value.type "tuple" == Value.type "tuple") = true from rfl]; simp)]
  refine wpAny_bind (listItems_at hp hd ?_); refine wpAny_bind (listItems_at (xs := #[]) (n := 0) (Heap.get?_push_size _ rfl) rfl ?_)
  rw [if_neg (by simp)]
  refine wpAny_bind (listUpdate_at (xs := #[]) (n := 0) (Heap.get?_push_size _ rfl) rfl (wpAny_pure ?_) (Nat.zero_le _) (by simp; omega))
  refine wpAny_bind (wpAny_load (get?_update_seq (Heap.get?_push_size _ rfl) _) ?_)
  have e : ((#[] : Array Value) ++ vs.toArray).toList = vs := by simp
  show wpAny _ _ (pure ((#[] : Array Value) ++ vs.toArray).toList) Q E _
  rw [e]
  exact wpAny_pure h
end
end BM
set_option Elab.async false
set_option linter.all false
set_option maxRecDepth 100000
set_option maxHeartbeats 2000000
namespace BM
open PySem PySem.Spec PySem.W PySem.SeqAt PyProof.Rows L2
variable [Tb]
section
variable {prog : Program} {w : World} {A : Around} {E : Value → Shared → Prop} {s : Shared}
theorem call_tupLt {Q : Value → Shared → Prop} {l b : Addr} {items items2 : Array Value} {e r : Nat → Bool} (hl : s.heap.IsTuple l items) (hb : s.heap.IsTuple b items2)
    (he : ∀ j (h1 : j < items.size) (h2 : j < items2.size), EqAt A.in1 s items[j] items2[j] (e j)) (hr : ∀ j (h1 : j < items.size) (h2 : j < items2.size), e j = false → PySem.SeqAt.RcLt A.in1 s items[j] items2[j] (r j))
    (h : Q (.bool (PySem.SeqAt.firstLt e r (decide (items.size < items2.size)) (List.range (min items.size items2.size)))) s) : wpAny (model prog w) A (call (.builtin "tuple.__lt__") [.ref l, .ref b]) Q E s := by
  obtain ⟨⟨c1, d1, a1, p1⟩, o1, e1, m1, g1⟩ := id hl
  obtain ⟨⟨c2, d2, a2, p2⟩, o2, e2, m2, g2⟩ := id hb
  simp only at e1 g1 e2 g2
  subst e1 g1 e2 g2
  exact call_meets F.slot_tuple_lt ⟨_, o1, rfl⟩ F.entry_tuple_lt (F.args_tuple_lt_2 _ _) (PySem.SeqAt.tuple_ltAt l b items items2 m1 m2 d1 d2 p1 p2 e r) ⟨o1, o2, he, hr, h⟩
/-- one tuple against another, asked of its class -/
theorem oneLt_tup {xs ys : List PyData} {a b : Value} {as bs : List Addr} {Q : Bool → Shared → Prop} (ra : Reads s.heap a (.tuple xs) as) (rb : Reads s.heap b (.tuple ys) bs) (h : alike (.tuple xs) (.tuple ys) = true)
    (hu : A.units + min (PyData.tuple xs).depth (PyData.tuple ys).depth < cLine) (hq : Q (dataLt (.tuple xs) (.tuple ys)) s) : wpAny (model prog w) A (oneLt' true a b) Q E s := by
  have hal : alikeAll xs ys = true := by simpa [alike] using h
  cases ra with
  | @tuple l o vs n _ as₁ h1 h2 h3 h4 =>
    cases rb with
    | @tuple l' o' vs' n' _ bs₁ k1 k2 k3 k4 =>
      have z1 : vs.size = xs.length := by simpa using ReadsAll.length _ _ _ h4
      have z2 : vs'.size = ys.length := by simpa using ReadsAll.length _ _ _ k4
      rw [dataLt_tuple, ← firstLt_toks xs ys hal, ← z1, ← z2] at hq
      rw [oneLt'_eq]
      simp only [if_true]
      refine wpAny_bind (wpAny_cRoomFor (room_here hu) ?_)
      refine wpAny_bind (wpAny_callSpecialIfBound?_slot (T := "tuple") ⟨_, h1, h2⟩ F.slot_tuple_lt (call_tupLt (e := pairEq xs ys) (r := fun j => dataLt (xs.getD j .none) (ys.getD j .none)) ⟨_, h1, h2, _, h3⟩ ⟨_, k1, k2, _, k3⟩ (fun j j1 j2 => ?_) (fun j j1 j2 hj => ?_) ?_))
      · have q := eqAt_alikeAll xs ys A.in1 s vs.toList vs'.toList _ _ h4 k4 hal (room_in hu) j (by simpa using j1) (by simpa using j2)
        rwa [Array.getElem_toList, Array.getElem_toList] at q
      · have q := rcLt_alikeAll xs ys A.in1 s vs.toList vs'.toList _ _ h4 k4 hal (room_in hu) j (by simpa using j1) (by simpa using j2) hj
        rwa [Array.getElem_toList, Array.getElem_toList] at q
      · exact wpAny_truthy_bool hq
def isE : PyData → Bool
  | .tuple [] => true
  | _ => false
/-- the first items of tuples -/
theorem firstsE : ∀ (vs : List Value) (ds : List PyData) {Q : List (Option Value) → Shared → Prop}, EachIs (fun v d => ∃ as, Reads s.heap v d as) vs ds → (∀ d, d ∈ ds → ∃ xs, d = .tuple xs) →
    (∀ fs : List (Option Value), fs.length = vs.length → (∀ (i : Nat) (d : PyData), ds[i]? = some d → (fs[i]?.bind id).isSome = !isE d) → Q fs s) → wpAny (model prog w) A (vs.mapM firstOfTuple') Q E s
  | [], _, Q, .nil, _, h => by
    rw [List.mapM_nil]
    exact wpAny_pure (h [] rfl fun i d q => by simp at q)
  | v :: vs, d :: ds, Q, .cons ⟨as, r⟩ t, ht, h => by
    obtain ⟨xs, rfl⟩ := ht d List.mem_cons_self
    rw [List.mapM_cons]
    refine wpAny_bind ?_
    rw [kas_first_eq]
    refine wpAny_bind ((looks_reads r).here ?_)
    rw [if_neg (by show ¬ (Value.type "tuple" != Value.type "tuple") = true; simp)]
    cases r with
    | @tuple a o its n _ _ ho hc hd hr =>
      refine wpAny_bind (listItems_at ho hd (wpAny_pure ?_))
      refine wpAny_bind (firstsE vs ds (Q := fun bs s' => wpAny (model prog w) A (pure (its[0]? :: bs)) Q E s') t (fun d hd => ht d (List.mem_cons_of_mem _ hd)) fun fs h1 h2 => wpAny_pure ?_)
      refine h _ (by rw [List.length_cons, List.length_cons, h1]) fun i d' q => ?_
      cases i with
      | zero =>
        have e : PyData.tuple xs = d' := Option.some.inj q
        subst e
        have z : its.size = xs.length := by simpa using ReadsAll.length _ _ _ hr
        show (its[0]?).isSome = _
        cases xs with
        | nil =>
          have z0 : its.size = 0 := z
          simp [z0]
          rfl
        | cons x r =>
          have z0 : 0 < its.size := by rw [z]; simp
          simp [z0]
          rfl
      | succ i => exact h2 i d' q
/-- the kind of tuples, one of them empty -/
theorem kind_tups {vs : List Value} {ds : List PyData} {Q : SortKind → Shared → Prop} (e : EachIs (fun v d => ∃ as, Reads s.heap v d as) vs ds) (ht : ∀ d, d ∈ ds → ∃ xs, d = .tuple xs) (he : PyData.tuple [] ∈ ds) (h : Q (if (ds.head?.any isE) = true then oneType' else general') s) :
    wpAny (model prog w) A (keyKind' vs.toArray) Q E s := by
  rw [kat_kind_eq, List.mapM_toArray, map_eq_pure_bind]
  refine wpAny_bind (wpAny_bind (firstsE vs ds e ht fun fs h1 h2 => wpAny_pure ?_))
  obtain ⟨i, hi, ei⟩ := List.getElem_of_mem he
  have e0 := h2 i _ (by rw [List.getElem?_eq_getElem hi, ei])
  have hall : ¬ ((fs.toArray.all fun x => x.isSome) = true) := by
    intro q
    have q := List.all_eq_true.mp (by simpa using q)
    rw [show isE (.tuple []) = true from rfl] at e0
    have hl : i < fs.length := by rw [h1, e.length]; exact hi
    rw [List.getElem?_eq_getElem hl] at e0
    have := q _ (List.getElem_mem hl)
    have e0 : (fs[i]).isSome = false := e0
    rw [e0] at this
    cases this
  rw [if_neg hall]
  cases ds with
  | nil => cases he
  | cons d ds =>
    have q0 := h2 0 d rfl
    have a0 : fs.toArray[0]? = fs[0]? := by simp
    rw [a0]
    by_cases hd : isE d = true
    · rw [hd] at q0
      rw [if_neg (by rw [q0]; simp)]
      rw [if_pos (show ((d :: ds).head?.any isE) = true from hd)] at h
      have hT : ∀ v ∈ vs, PySem.W.Looks (model prog w) s.heap (typeOf v) (.type "tuple") := fun v hv => by
        obtain ⟨d, hd, as, r⟩ := e.left v hv
        obtain ⟨xs, rfl⟩ := ht d hd
        exact looks_reads r
      rw [oneTypeOnly'_eq, List.mapM_toArray, map_eq_pure_bind]
      refine wpAny_bind (wpAny_bind (wpAny_bind (kas_mapM (r := Value.type "tuple") _ (fun v hv Q' hq => (hT v hv).here hq) (wpAny_pure ?_))))
      have hall : ((List.map (fun _ => Value.type "tuple") vs).toArray.all fun x => x == Value.type "tuple") = true := by
        simp only [List.all_toArray, List.all_map, List.all_eq_true]
        intro _ _
        exact beq_self_eq_true _
      have h0 : (List.map (fun _ => Value.type "tuple") vs).toArray[0]? = some (Value.type "tuple") := by
        cases vs with
        | nil => cases e
        | cons v vs => simp
      rw [h0]
      simp only [hall, if_true]
      exact wpAny_pure (wpAny_pure h)
    · rw [Bool.eq_false_iff.mpr hd] at q0
      rw [if_pos (by simpa using q0)]
      rw [if_neg (fun z : ((d :: ds).head?.any isE) = true => hd z)] at h
      exact wpAny_pure h
theorem sortsAt_tups {vs : List Value} {ds : List PyData} (e : EachIs (fun v d => ∃ as, Reads s.heap v d as) vs ds) (hal : AllAlike ds) (ht : ∀ d, d ∈ ds → ∃ xs, d = .tuple xs) (hu : ∀ d, d ∈ ds → A.units + d.depth < cLine) : SortsAt prog w A s (dataKind s.heap ds) vs := by
  by_cases he : PyData.tuple [] ∈ ds
  · refine ⟨fun v hv => ?_, if (ds.head?.any isE) = true then oneType' else general', ?_, fun h2 E Q hq => kind_tups e ht he hq⟩
    · obtain ⟨d, hd, as, r⟩ := e.left v hv
      exact ⟨_, dataKind_some hal hd r⟩
    · intro E x y a b Q ha hb hq
      obtain ⟨d, as, hd, ra, rfl⟩ := dataKind_inv ha
      obtain ⟨d', as', hd', rb, rfl⟩ := dataKind_inv hb
      have hdd := hal d hd d' hd'
      have room : A.units + min d.depth d'.depth < cLine := Nat.lt_of_le_of_lt (Nat.add_le_add_left (Nat.min_le_left _ _) _) (hu d hd)
      obtain ⟨xs, rfl⟩ := ht d hd
      obtain ⟨ys, rfl⟩ := ht d' hd'
      by_cases z : (ds.head?.any isE) = true
      · rw [if_pos z, keyLt'_oneType]
        exact oneLt_tup ra rb hdd room hq
      · rw [if_neg z]
        show wpAny (model prog w) A (oneLt' false x y) Q E s
        exact oneLt_alike (fun z => nomatch z) ra rb hdd (fun z => nomatch z) room hq
  · exact SortsAt.data e hal (.inl fun d hd => by
      obtain ⟨xs, rfl⟩ := ht d hd
      cases xs with
      | nil => exact absurd hd he
      | cons x r => exact ⟨x, r, rfl⟩) hu
end
end BM
set_option Elab.async false
set_option linter.all false
set_option maxRecDepth 100000
set_option maxHeartbeats 2000000
namespace BM
open PySem PySem.Spec PyProof.Rows PyProof.Rows.G L2
variable [Tb]
section
variable {prog : Program} {w : World} {A : Around} {E : Value → Shared → Prop} {s : Shared} {β : Type} {vs : List Value} {bs : List β} {enc : β → PyData} {R : Value → β → Prop}
theorem sortsAt_any {ds : List PyData} (e : PySem.W.EachIs (fun v d => ∃ as, Reads s.heap v d as) vs ds) (hal : PySem.W.AllAlike ds) (hk : PySem.W.Sortable ds ∨ ∀ d, d ∈ ds → ∃ xs, d = .tuple xs) (hu : ∀ d, d ∈ ds → A.units + d.depth < cLine) : PySem.W.SortsAt prog w A s (PySem.W.dataKind s.heap ds) vs := by
  rcases hk with hk | hk
  · exact PySem.W.SortsAt.data e hal hk hu
  · exact sortsAt_tups e hal hk hu
theorem sorted_lstE {l : Addr} {Q : Value → Shared → Prop} (hl : s.heap.IsList l vs.toArray) (e : PySem.W.EachIs R vs bs) (er : PySem.W.EachIs (fun v b => ∃ as, Reads s.heap v (enc b) as) vs bs) (hal : PySem.W.AllAlike (bs.map enc)) (hk : PySem.W.Sortable (bs.map enc) ∨ ∀ d, d ∈ bs.map enc → ∃ xs, d = .tuple xs) (hL : bs.length ≤ sizeLine)
    (hu : ∀ b, b ∈ bs → A.units + 2 + (enc b).depth < cLine) (h : ∀ out : List Value, out.length = bs.length → PySem.W.EachIs R out (bs.mergeSort (PySem.W.dataLe false enc)) → Q (.ref (s.heap.objs.size + 1)) { s with heap := sortedAll s.heap vs (List.toArray out) }) :
    wpAny (model prog w) A (call (.builtin "sorted") [.ref l]) Q E s := by
  have er' : PySem.W.EachIs (fun v b => ∃ as, Reads (PySem.W.sortingHeap (PySem.W.copyHeap s.heap vs) (s.heap.objs.size + 1) vs) v (enc b) as) vs bs := er.mono fun _ _ ⟨as, r⟩ => ⟨as, Reads.keeps (fun _ _ => PySem.W.sorting_copy_old) r⟩
  refine PySem.W.sorted_vals hl (sortsAt_any (s := { s with heap := PySem.W.sortingHeap (PySem.W.copyHeap s.heap vs) (s.heap.objs.size + 1) vs }) (PySem.W.each_map (R := fun v d => ∃ as, Reads (PySem.W.sortingHeap (PySem.W.copyHeap s.heap vs) (s.heap.objs.size + 1) vs) v d as) enc er') hal hk (PySem.W.bound_map hu)) (by rw [e.length]; exact hL) ?_
  exact h _ (by rw [PySem.W.sortVals_length false rfl]; exact e.length) (PySem.W.sortVals_data false e er' hal)
theorem sorted_tupE {l : Addr} {o : Obj} {n : Nat} {Q : Value → Shared → Prop} (ho : s.heap.get? l = some o) (hc : o.cls = .type "tuple") (hd : o.data = .seq vs.toArray n) (e : PySem.W.EachIs R vs bs)
    (er : PySem.W.EachIs (fun v b => ∃ as, Reads s.heap v (enc b) as) vs bs) (hal : PySem.W.AllAlike (bs.map enc)) (hk : PySem.W.Sortable (bs.map enc) ∨ ∀ d, d ∈ bs.map enc → ∃ xs, d = .tuple xs) (hL : bs.length ≤ sizeLine) (hu : ∀ b, b ∈ bs → A.units + 2 + (enc b).depth < cLine)
    (h : ∀ (h' : Heap) (p c : Nat) (out : List Value), (∀ b u, s.heap.get? b = some u → h'.get? b = some u) → s.heap.objs.size ≤ p → h'.get? p = some (seqObj "list" out.toArray c) → out.length = bs.length → PySem.W.EachIs R out (bs.mergeSort (PySem.W.dataLe false enc)) → Q (.ref p) { s with heap := h' }) :
    wpAny (model prog w) A (call (.builtin "sorted") [.ref l]) Q E s := by
  have hvl : vs.length ≤ sizeLine := by rw [e.length]; exact hL
  refine Calls.call_function_entry kind_sorted plain_sorted entry_sorted (args_sorted1 _) ?_
  unfold Builtin.«sorted»
  refine wpAny_bind (m := checkCount "sorted" 1 1 _) (wpAny_pure ?_)
  refine wpAny_bind (collect_tupZ ho hc hd hvl ?_)
  generalize hh1 : (s.heap.push (seqObj "list" #[] 0)).update s.heap.objs.size (Obj.mapSeq (· ++ vs.toArray)) = h1
  have k1 : ∀ b u, s.heap.get? b = some u → h1.get? b = some u := fun b u q => by
    rw [← hh1]
    exact (Heap.get?_update_other _ _ (Nat.ne_of_gt (Heap.lt_size q))).trans (Heap.get?_push_of_some _ q)
  have hsz : s.heap.objs.size ≤ h1.objs.size := by rw [← hh1, Heap.size_update, size_push']; omega
  refine wpAny_bind (wpAny_newList ?_ hvl)
  have hoL : (h1.push (seqObj "list" vs.toArray 0)).get? h1.objs.size = some (seqObj "list" vs.toArray 0) := Heap.get?_push_size _ rfl
  have old : ∀ b u, s.heap.get? b = some u → (PySem.W.sortingHeap (h1.push (seqObj "list" vs.toArray 0)) h1.objs.size vs).get? b = some u := fun b u q => by
    have q1 := k1 b u q
    exact PySem.W.sortingHeap_old (Nat.ne_of_lt (Heap.lt_size q1)) (Heap.get?_push_of_some _ q1)
  have er' : PySem.W.EachIs (fun v b => ∃ as, Reads (PySem.W.sortingHeap (h1.push (seqObj "list" vs.toArray 0)) h1.objs.size vs) v (enc b) as) vs bs := er.mono fun _ _ ⟨as, r⟩ => ⟨as, Reads.keeps old r⟩
  refine wpAny_bind (wpAny_holding (wpAny_call_entry slot_list_sort ⟨_, hoL, rfl⟩ entry_list_sort (PySem.W.list_sort_vals (s := { s with heap := h1.push (seqObj "list" vs.toArray 0) }) (κ := PySem.W.dataKind (PySem.W.sortingHeap (h1.push (seqObj "list" vs.toArray 0)) h1.objs.size vs) (bs.map enc)) hoL
    (sortsAt_any (s := { s with heap := PySem.W.sortingHeap (h1.push (seqObj "list" vs.toArray 0)) h1.objs.size vs }) (PySem.W.each_map (R := fun v d => ∃ as, Reads (PySem.W.sortingHeap (h1.push (seqObj "list" vs.toArray 0)) h1.objs.size vs) v d as) enc er') hal hk (PySem.W.bound_map hu)) hvl ⟨_, rfl, ?_⟩) (args_list_sort _)))
  obtain ⟨c, hcc⟩ := sortedHeap_at (vs := vs) (out := (PySem.W.sortVals (PySem.W.dataKind (PySem.W.sortingHeap (h1.push (seqObj "list" vs.toArray 0)) h1.objs.size vs) (bs.map enc)) false vs vs).toArray) hoL
  refine wpAny_pure ⟨_, rfl, h _ h1.objs.size c _ (fun b u q => ?_) hsz hcc (by rw [PySem.W.sortVals_length false rfl]; exact e.length) (PySem.W.sortVals_data false e er' hal)⟩
  have q1 := k1 b u q
  have hlt := Heap.lt_size q1
  rw [sortedHeap_old (Nat.ne_of_lt hlt) (by rw [size_push']; exact Nat.lt_succ_of_lt hlt)]
  exact Heap.get?_push_of_some _ q1
end
def isTup0 : PyData → Bool
  | .tuple _ => true
  | _ => false
theorem isTup0_ex {p : PyData} (h : isTup0 p = true) : ∃ xs, p = .tuple xs := by
  unfold isTup0 at h
  split at h
  · exact ⟨_, rfl⟩
  · cases h
def sortOkE (l : List D) : Bool := (l.all fun d => (D.py d).isSome) && ((l.map pyD).all fun p => (l.map pyD).all fun q => PySem.W.alike p q) && (((l.map pyD).all isTup0) || (l.map pyD).all fun p => !isTupNon p) && decide (l.length ≤ sizeLine) && (l.map pyD).all fun p => decide (p.depth ≤ 60)
section
variable {X : Cx}
theorem cr_sortEL (hu : X.A.units + 64 < cLine) : CallR X (.builtin "sorted") (fun vs H Q => ∃ (a : Addr) (xs : List V) (ds : List D), vs = [V.ref a] ∧ SqL X.K H a xs ∧ Reps X.K H ds xs ∧ sortOkE ds = true ∧ ∀ p, H p = none → Q (.ref p) (upd H p (.lst ((srtP (ds.zip xs)).map (·.2))))) := by
  intro pins s σ H vs us Q I r h
  obtain ⟨a, xs, ds, rfl, hs, hR, hok, q⟩ := h
  obtain ⟨its, rv, hl, hz⟩ := I.list hs
  rw [Vals.ref1 r]
  have hlen : ds.length = xs.length := hR.length
  unfold sortOkE at hok
  simp only [Bool.and_eq_true, decide_eq_true_eq, List.all_eq_true, Bool.or_eq_true] at hok
  obtain ⟨⟨⟨⟨h1, h2⟩, h3⟩, h4⟩, h5⟩ := hok
  have hpy : ∀ d ∈ ds, D.py d = some (pyD d) := fun d hd => by
    have z := h1 d hd
    unfold pyD
    cases q : D.py d with
    | none => rw [q] at z; cases z
    | some p => rfl
  refine sorted_lstE (bs := ds.zip xs) (enc := fun p => pyD p.1) (R := fun u p => RelV p.2 u) hl.isList (each_zip rv hlen fun d x u hm hr => hr) (each_zip rv hlen fun d x u hm hr => ?_) ?_ ?_ ?_ (fun b hb => ?_) fun out ho eo => ?_
  · exact Dp.reads I (pyD d) x u (rep_dp (reps_mem hR hm) (hpy d (List.of_mem_zip hm).1)) hr
  · rw [map_fst_zip hlen]
    exact fun p hp q hq => h2 p hp q hq
  · rw [map_fst_zip hlen]
    rcases h3 with h3 | h3
    · exact .inr fun p hp => isTup0_ex (h3 p hp)
    · exact .inl (.inr fun p hp => tupNon_no (h3 p hp))
  · rw [List.length_zip, hlen, Nat.min_self, ← hlen]; exact h4
  · obtain ⟨d, x⟩ := b
    have z := h5 (pyD d) (List.mem_map.mpr ⟨d, (List.of_mem_zip hb).1, rfl⟩)
    show X.A.units + 2 + (pyD d).depth < cLine
    omega
  · have ev := vals_each eo
    have hlo : ((srtP (ds.zip xs)).map (·.2)).length ≤ sizeLine := by
      rw [List.length_map, (srtP_perm _).length_eq, List.length_zip, hlen, Nat.min_self, ← hlen]; exact h4
    obtain ⟨ep, he'⟩ := sortedAll_at s.heap its out.toArray
    exact ⟨.ref _, upd H (s.heap.objs.size + 1) (.lst ((srtP (ds.zip xs)).map (·.2))), I.laid (t' := s.toks) (fun _ _ => sortedAll_old) (Nat.le_succ _) ⟨hlo, out, ep, ev, he'⟩, rfl, q _ (I.hok.fresh (Nat.le_succ _))⟩
theorem cr_sortET (hu : X.A.units + 64 < cLine) : CallR X (.builtin "sorted") (fun vs H Q => ∃ (a : Addr) (xs : List V) (ds : List D), vs = [V.ref a] ∧ SqT X.K H a xs ∧ Reps X.K H ds xs ∧ sortOkE ds = true ∧ ∀ p, H p = none → Q (.ref p) (upd H p (.lst ((srtP (ds.zip xs)).map (·.2))))) := by
  intro pins s σ H vs us Q I r h
  obtain ⟨a, xs, ds, rfl, hs, hR, hok, q⟩ := h
  obtain ⟨its, rv, ⟨o, ho, hc, n, hd⟩, hz⟩ := I.tuple hs
  rw [Vals.ref1 r]
  have hlen : ds.length = xs.length := hR.length
  unfold sortOkE at hok
  simp only [Bool.and_eq_true, decide_eq_true_eq, List.all_eq_true, Bool.or_eq_true] at hok
  obtain ⟨⟨⟨⟨h1, h2⟩, h3⟩, h4⟩, h5⟩ := hok
  have hpy : ∀ d ∈ ds, D.py d = some (pyD d) := fun d hd => by
    have z := h1 d hd
    unfold pyD
    cases q : D.py d with
    | none => rw [q] at z; cases z
    | some p => rfl
  refine sorted_tupE (bs := ds.zip xs) (enc := fun p => pyD p.1) (R := fun u p => RelV p.2 u) ho hc hd (each_zip rv hlen fun d x u hm hr => hr) (each_zip rv hlen fun d x u hm hr => ?_) ?_ ?_ ?_ (fun b hb => ?_) fun h' p c out k hp hg ho eo => ?_
  · exact Dp.reads I (pyD d) x u (rep_dp (reps_mem hR hm) (hpy d (List.of_mem_zip hm).1)) hr
  · rw [map_fst_zip hlen]
    exact fun p hp q hq => h2 p hp q hq
  · rw [map_fst_zip hlen]
    rcases h3 with h3 | h3
    · exact .inr fun p hp => isTup0_ex (h3 p hp)
    · exact .inl (.inr fun p hp => tupNon_no (h3 p hp))
  · rw [List.length_zip, hlen, Nat.min_self, ← hlen]; exact h4
  · obtain ⟨d, x⟩ := b
    have z := h5 (pyD d) (List.mem_map.mpr ⟨d, (List.of_mem_zip hb).1, rfl⟩)
    show X.A.units + 2 + (pyD d).depth < cLine
    omega
  · have ev := vals_each eo
    have hlo : ((srtP (ds.zip xs)).map (·.2)).length ≤ sizeLine := by
      rw [List.length_map, (srtP_perm _).length_eq, List.length_zip, hlen, Nat.min_self, ← hlen]; exact h4
    exact ⟨.ref _, upd H p (.lst ((srtP (ds.zip xs)).map (·.2))), I.laid (t' := s.toks) k hp ⟨hlo, out, c, ev, hg⟩, rfl, q _ (I.hok.fresh hp)⟩
end
/-- sorted(x), x a list or a tuple -/
def fSortedE : D → Option O
  | .lst l => if sortOkE l = true then some (.lst (leaf (srtD l))) else none
  | .tup l => if sortOkE l = true then some (.lst (leaf (srtD l))) else none
  | _ => none
section
variable {Γ : Gm}
theorem ok_sortedE : OkC Γ (.builtin "sorted") (w1 fSortedE) := okC1 fun X ok H L x d o hS lx hF Q q => by
  have fin : ∀ (l : List D) (xs : List V) (H' : Hp) (p : Addr), l.length = xs.length → H' p = none → St Γ.cfg.K H' (reps (leaf l) xs ++ L) → St Γ.cfg.K (upd H' p (.lst ((srtP (l.zip xs)).map (·.2)))) (.rep (.lst (leaf (srtD l))) (.ref p) :: L) := fun l xs H' p l1 hp s1 => by
    have ef : srtD l = (srtP (l.zip xs)).map (·.1) := (srtP_fst l1).symm
    rw [ef]
    refine St.newLst (by rw [List.length_map, List.length_map]) hp ?_
    rw [reps_zip (by rw [List.length_map, List.length_map])]
    rw [reps_zip l1] at s1
    refine s1.perm (List.Perm.append_right L ?_)
    rw [show ((srtP (l.zip xs)).map (·.1)).zip ((srtP (l.zip xs)).map (·.2)) = srtP (l.zip xs) from (List.zip_of_prod rfl rfl).symm]
    exact ((srtP_perm _).map _).symm
  unfold fSortedE at hF
  split at hF
  · rename_i l
    by_cases hz : sortOkE l = true
    · rw [if_pos hz] at hF
      have e1 := Option.some.inj hF
      subst e1
      obtain ⟨a, xs, e, h1, l1, s1⟩ := Look.lst hS lx
      subst e
      exact ⟨_, cr_sortEL ok.room.units, a, xs, l, rfl, by rw [ok.hK]; exact h1, by rw [ok.hK]; exact St.repsH l1 s1, hz, fun p hp => q _ _ (fin l xs H p l1 hp s1)⟩
    · rw [if_neg hz] at hF; cases hF
  · rename_i l
    by_cases hz : sortOkE l = true
    · rw [if_pos hz] at hF
      have e1 := Option.some.inj hF
      subst e1
      obtain ⟨a, xs, e, h1, l1, s1⟩ := Look.tup hS lx
      subst e
      exact ⟨_, cr_sortET ok.room.units, a, xs, l, rfl, by rw [ok.hK]; exact h1, by rw [ok.hK]; exact St.repsH l1 s1, hz, fun p hp => q _ _ (fin l xs H p l1 hp s1)⟩
    · rw [if_neg hz] at hF; cases hF
  · cases hF
end
theorem e_fSortedEL {l : List D} (h : sortOkE l = true) : fSortedE (.lst l) = some (.lst (leaf (srtD l))) := if_pos h
end BM
set_option Elab.async false
set_option linter.all false
set_option maxRecDepth 100000
set_option maxHeartbeats 2000000
namespace BM
open PySem PySem.Spec PyProof.Rows PyProof.Rows.G L2
variable [Tb]
theorem alike_strT : ∀ xs ys : List Str, PySem.W.alikeAll (xs.map .str) (ys.map .str) = true
  | [], _ => by simp [PySem.W.alikeAll]
  | _ :: _, [] => by simp [PySem.W.alikeAll]
  | x :: xs, y :: ys => by
    rw [List.map_cons, List.map_cons, PySem.W.alikeAll, alike_strT xs ys]
    simp [PySem.W.alike]
end BM
set_option Elab.async false
set_option linter.all false
set_option maxRecDepth 100000
set_option maxHeartbeats 4000000
namespace BM
open PySem PySem.Spec PyProof.Rows L2
variable [Tb]
mutual
def okN : D → Bool
  | .non => true
  | .bl _ => true
  | .int i => decide (i.natAbs.log2 < 1920)
  | .str x => PyData.strOk x
  | .tup l => okNs l
  | .lst l => okNs l
  | .dct l => okNk l
  | _ => false
def okNs : List D → Bool
  | [] => true
  | x :: r => okN x && okNs r
def okNk : List (D × D) → Bool
  | [] => true
  | (k, x) :: r => flX k && okN x && okNk r
end
mutual
def wtN : D → Nat
  | .non => 4
  | .bl _ => 5
  | .int i => if 0 ≤ i ∧ i < 10 ^ 10 then 10 else 1921
  | .str x => 10 * x.length + 2
  | .tup l => wtNs l + 3
  | .lst l => wtNs l + 3
  | .dct l => wtNk l + 3
  | _ => 0
def wtNs : List D → Nat
  | [] => 0
  | x :: r => wtN x + 2 + wtNs r
def wtNk : List (D × D) → Nat
  | [] => 0
  | (k, x) :: r => wtF k + wtN x + 4 + wtNk r
end
mutual
def dpN : D → Nat
  | .tup l => dpNs l + 1
  | .lst l => dpNs l + 1
  | .dct l => dpNk l + 1
  | _ => 0
def dpNs : List D → Nat
  | [] => 0
  | x :: r => max (dpN x) (dpNs r)
def dpNk : List (D × D) → Nat
  | [] => 0
  | (_, x) :: r => max (dpN x) (dpNk r)
end
mutual
def pyN : D → PyData
  | .bl b => .bool b
  | .int i => .int i
  | .str x => .str x
  | .tup l => .tuple (pyNs l)
  | .lst l => .list (pyNs l)
  | .dct l => .dict (pyNk l)
  | _ => .none
def pyNs : List D → List PyData
  | [] => []
  | x :: r => pyN x :: pyNs r
def pyNk : List (D × D) → List (PyData × PyData)
  | [] => []
  | (k, x) :: r => (pyF k, pyN x) :: pyNk r
end
mutual
theorem okN_len : ∀ {d : D}, okN d = true → (pyN d).shown.length ≤ wtN d ∧ (pyN d).depth = dpN d
  | .non, _ => by simp only [pyN, wtN, PyData.shown, PyData.depth, dpN]; decide
  | .bl b, _ => by cases b <;> (simp only [pyN, wtN, PyData.shown, PyData.depth, dpN]; decide)
  | .int i, h => by
    rw [okN] at h
    have := flX_len (d := .int i) h
    exact ⟨by simpa [pyN, pyF, wtN, wtF] using this.1, by simp [pyN, PyData.depth, dpN]⟩
  | .str x, h => by
    rw [okN] at h
    have := flX_len (d := .str x) h
    exact ⟨by simpa [pyN, pyF, wtN, wtF] using this.1, by simp [pyN, PyData.depth, dpN]⟩
  | .tup l, h => by
    rw [okN] at h
    obtain ⟨h1, h2⟩ := okNs_len h
    refine ⟨?_, by simp only [pyN, PyData.depth, dpN, h2]⟩
    simp only [pyN, PyData.shown, wtN]
    exact Nat.le_trans (tupleText_len_le _) (by rw [shownAll_len]; omega)
  | .lst l, h => by
    rw [okN] at h
    obtain ⟨h1, h2⟩ := okNs_len h
    refine ⟨?_, by simp only [pyN, PyData.depth, dpN, h2]⟩
    simp only [pyN, PyData.shown, wtN]
    exact Nat.le_trans (listText_len_le _) (by rw [shownAll_len]; omega)
  | .dct l, h => by
    rw [okN] at h
    obtain ⟨h1, h2, h3⟩ := okNk_len h
    refine ⟨?_, by simp only [pyN, PyData.depth, dpN, h3]⟩
    simp only [pyN, PyData.shown, wtN]
    exact Nat.le_trans (dictText_len_le _) (by rw [h1]; omega)
  | .obj _ _ _, h => by simp [okN] at h
theorem okNs_len : ∀ {l : List D}, okNs l = true → ((PyData.shownAll (pyNs l)).map (·.length)).sum + 2 * (pyNs l).length ≤ wtNs l ∧ PyData.depthAll (pyNs l) = dpNs l
  | [], _ => by simp [pyNs, PyData.shownAll, wtNs, PyData.depthAll, dpNs]
  | x :: r, h => by
    rw [okNs, Bool.and_eq_true] at h
    obtain ⟨h1, h2⟩ := okN_len h.1
    obtain ⟨g1, g2⟩ := okNs_len h.2
    refine ⟨?_, by simp only [pyNs, depthAll_cons, dpNs, h2, g2]⟩
    simp only [pyNs, PyData.shownAll, wtNs, List.map_cons, List.sum_cons, List.length_cons]
    omega
theorem okNk_len : ∀ {l : List (D × D)}, okNk l = true → (PyData.shownKv (pyNk l)).length = l.length ∧ ((PyData.shownKv (pyNk l)).map (·.length)).sum + 2 * l.length ≤ wtNk l ∧ PyData.depthKv (pyNk l) = dpNk l
  | [], _ => by simp [pyNk, PyData.shownKv, PyData.depthKv, wtNk, dpNk]
  | (k, x) :: r, h => by
    rw [okNk, Bool.and_eq_true, Bool.and_eq_true] at h
    obtain ⟨a1, a2, _⟩ := flX_len h.1.1
    obtain ⟨b1, b2⟩ := okN_len h.1.2
    obtain ⟨i1, i2, i3⟩ := okNk_len h.2
    refine ⟨by simp [pyNk, PyData.shownKv, i1], ?_, ?_⟩
    · simp only [pyNk, PyData.shownKv, wtNk, List.map_cons, List.sum_cons, List.length_cons]
      rw [strLen_append, strLen_append]
      have : ((": " : String) : Str).length = 2 := by decide
      omega
    · rw [pyNk, PyData.depthKv, a2, b2, i3, dpNk]
      omega
end
theorem ents_more {P : Program} {w : World} {h₀ : Heap} {as as' : List Addr} {d d' : Nat} (hsub : ∀ b ∈ as, b ∈ as') (hd : d ≤ d') : ∀ {es : List DictEntry} {ps : List Str}, ReprEntriesK P w as h₀ d es ps → ReprEntriesK P w as' h₀ d' es ps
  | _, _, .nil => .nil
  | _, _, .cons a b c => .cons ((a.more hsub).level_le hd) ((b.more hsub).level_le hd) (ents_more hsub hd c)
section
variable {X : Cx} {pins : List (Addr × Obj)} {σ : L2.St} {H : Hp} {s : Shared}
mutual
theorem showN (I : Inv X pins σ H s) : ∀ {d : D} {v : V} {u : Value}, okN d = true → wtN d ≤ sizeLine → Rep X.K H d v → RelV v u → ∃ as bs, Reads s.heap u (pyN d) as ∧ ReadAtMost s.heap (pyN d).depth bs ∧ ReprK X.prog X.w bs s.heap (pyN d).depth u (pyN d).shown
  | .non, v, u, h, hz, r, e => by
    obtain ⟨g1, g2⟩ := showF (X := X) (s := s) (bs := []) (n := (pyN .non).depth) (d := .non) rfl (by rw [sizeLine_eq]; decide) r e
    exact ⟨[], [], g1, fun _ z => (nomatch z), g2⟩
  | .bl b, v, u, h, hz, r, e => by
    obtain ⟨g1, g2⟩ := showF (X := X) (s := s) (bs := []) (n := (pyN (.bl b)).depth) (d := .bl b) rfl (by rw [sizeLine_eq]; show 5 ≤ _; decide) r e
    exact ⟨[], [], g1, fun _ z => (nomatch z), g2⟩
  | .int i, v, u, h, hz, r, e => by
    rw [okN] at h
    rw [wtN] at hz
    obtain ⟨g1, g2⟩ := showF (X := X) (s := s) (bs := []) (n := (pyN (.int i)).depth) (d := .int i) h hz r e
    exact ⟨[], [], g1, fun _ z => (nomatch z), g2⟩
  | .str x, v, u, h, hz, r, e => by
    rw [okN] at h
    rw [wtN] at hz
    obtain ⟨g1, g2⟩ := showF (X := X) (s := s) (bs := []) (n := (pyN (.str x)).depth) (d := .str x) h hz r e
    exact ⟨[], [], g1, fun _ z => (nomatch z), g2⟩
  | .tup l, v, u, h, hz, r, e => by
    rw [okN] at h
    rw [wtN] at hz
    rw [Rep] at r
    obtain ⟨a, vs, e1, h1, h2⟩ := r
    subst e1
    cases (show u = Value.ref a from e)
    obtain ⟨its, rv, ⟨o, g1, g2, n, g3⟩, _⟩ := I.tuple h1
    obtain ⟨as, bs, k1, k2, k3⟩ := showsN I h (by omega) h2 rv
    have r1 : Reads s.heap (.ref a) (.tuple (pyNs l)) as := .tuple g1 g2 g3 (by simpa using k1)
    have hna : a ∉ bs := not_mem_of_deeper r1 (by simp only [PyData.depth]; omega) k2
    refine ⟨as, a :: bs, by rw [pyN]; exact r1, by rw [pyN]; exact ReadAtMost.cons r1 (by simp only [PyData.depth]; omega) k2, ?_⟩
    simp only [pyN, PyData.depth, PyData.shown]
    exact ReprK.tuple g1 g2 g3 hna (by simpa using k3)
  | .lst l, v, u, h, hz, r, e => by
    rw [okN] at h
    rw [wtN] at hz
    rw [Rep] at r
    obtain ⟨a, vs, e1, h1, h2⟩ := r
    subst e1
    cases (show u = Value.ref a from e)
    obtain ⟨its, rv, hl, _⟩ := I.list h1
    obtain ⟨o, g1, g2, n, g3⟩ := hl.isList
    obtain ⟨as, bs, k1, k2, k3⟩ := showsN I h (by omega) h2 rv
    have r1 : Reads s.heap (.ref a) (.list (pyNs l)) (a :: as) := .list g1 g2 g3 (by simpa using k1)
    have hna : a ∉ bs := not_mem_of_deeper r1 (by simp only [PyData.depth]; omega) k2
    refine ⟨a :: as, a :: bs, by rw [pyN]; exact r1, by rw [pyN]; exact ReadAtMost.cons r1 (by simp only [PyData.depth]; omega) k2, ?_⟩
    simp only [pyN, PyData.depth, PyData.shown]
    cases its with
    | nil =>
      cases rv
      cases l with
      | nil =>
        rw [pyNs, PyData.shownAll, listText_nil]
        exact ReprK.listEmpty g1 g2 g3
      | cons y l =>
        rw [Reps] at h2
        obtain ⟨_, _, z, _⟩ := h2
        cases z
    | cons y its => exact ReprK.list g1 g2 g3 hna (by simpa using k3.length_eq) (fun i y e => k3.item i y (by simpa using e))
  | .dct l, v, u, h, hz, r, e => by
    rw [okN] at h
    rw [wtN] at hz
    rw [Rep] at r
    obtain ⟨a, kvs, e1, h1, h2⟩ := r
    subst e1
    cases (show u = Value.ref a from e)
    obtain ⟨_, hsys, vs, kv, o, es, ep, g1, g2, g3, _, g5, _⟩ := dk_rd I.hok h1
    obtain ⟨as, bs, k1, k2, k4, k3⟩ := showNk I h (by omega) h2 kv g5
    have r1 : Reads s.heap (.ref a) (.dict (pyNk l)) (a :: [] ++ as) := .dict g1 g2.1 g3 k1 k2
    have hna : a ∉ bs := not_mem_of_deeper r1 (by simp only [PyData.depth]; omega) k4
    refine ⟨a :: [] ++ as, a :: bs, by rw [pyN]; exact r1, by rw [pyN]; exact ReadAtMost.cons r1 (by simp only [PyData.depth]; omega) k4, ?_⟩
    simp only [pyN, PyData.depth, PyData.shown]
    exact ReprK.dict g1 g2.1 g3 hsys hna k3
  | .obj _ _ _, _, _, h, _, _, _ => by simp [okN] at h
theorem showsN (I : Inv X pins σ H s) : ∀ {l : List D} {vs : List V} {us : List Value}, okNs l = true → wtNs l ≤ sizeLine → Reps X.K H l vs → Vals vs us → ∃ as bs, ReadsAll s.heap us (pyNs l) as ∧ ReadAtMost s.heap (PyData.depthAll (pyNs l)) bs ∧ ReprAllK X.prog X.w bs s.heap (PyData.depthAll (pyNs l)) us (PyData.shownAll (pyNs l))
  | [], vs, us, _, _, r, e => by
    rw [Reps] at r
    subst r
    cases e
    exact ⟨[], [], by rw [pyNs]; exact .nil, fun _ z => (nomatch z), by rw [pyNs, PyData.shownAll]; exact .nil⟩
  | d :: l, vs, us, h, hz, r, e => by
    rw [okNs, Bool.and_eq_true] at h
    rw [wtNs] at hz
    rw [Reps] at r
    obtain ⟨v, vs', e1, h1, h2⟩ := r
    subst e1
    cases e with
    | cons e1 e2 =>
      obtain ⟨a1, b1, x1, x2, x3⟩ := showN I h.1 (by omega) h1 e1
      obtain ⟨a2, b2, y1, y2, y3⟩ := showsN I h.2 (by omega) h2 e2
      refine ⟨a1 ++ a2, b1 ++ b2, by rw [pyNs]; exact .cons x1 y1, ?_, ?_⟩
      · rw [pyNs, depthAll_cons]
        exact (x2.mono (Nat.le_max_left _ _)).append (y2.mono (Nat.le_max_right _ _))
      · simp only [pyNs, depthAll_cons, PyData.shownAll]
        exact .cons ((x3.more fun b hb => List.mem_append_left _ hb).level_le (Nat.le_max_left _ _)) (y3.more_le (fun b hb => List.mem_append_right _ hb) (Nat.le_max_right _ _))
theorem showNk (I : Inv X pins σ H s) : ∀ {l : List (D × D)} {kvs : List (Key × V)} {vs : List (Key × Value)} {es : List DictEntry}, okNk l = true → wtNk l ≤ sizeLine → RepKs X.K H l kvs → KV kvs vs → Pairs (mixKind X.prog X.w) es vs →
    ∃ as bs, ReadsAll s.heap (es.map (·.key)) ((pyNk l).map (·.1)) [] ∧ ReadsAll s.heap (es.map (·.val)) ((pyNk l).map (·.2)) as ∧ ReadAtMost s.heap (PyData.depthKv (pyNk l)) bs ∧ ReprEntriesK X.prog X.w bs s.heap (PyData.depthKv (pyNk l)) es (PyData.shownKv (pyNk l))
  | [], kvs, vs, es, _, _, r, k, p => by
    rw [RepKs] at r
    subst r
    cases k
    cases p
    exact ⟨[], [], by rw [pyNk]; exact .nil, by rw [pyNk]; exact .nil, fun _ z => (nomatch z), by rw [pyNk, PyData.shownKv]; exact .nil⟩
  | (k0, d) :: l, kvs, vs, es, h, hz, r, k, p => by
    rw [okNk, Bool.and_eq_true, Bool.and_eq_true] at h
    rw [wtNk] at hz
    rw [RepKs] at r
    obtain ⟨k', v, r', e1, e2, h1, h2⟩ := r
    subst e1 e2
    cases k with
    | cons hk hks =>
      rename_i q qs
      cases p with
      | cons a b c =>
        rename_i e es
        obtain ⟨a2, b2, i1, i2, i4, i3⟩ := showNk I h.2 (by omega) h2 hks c
        obtain ⟨hk1, hk2⟩ := hk
        have hk1 : k' = q.1 := hk1
        have hv : RelV v e.val := by rw [b]; exact hk2
        obtain ⟨a1, b1, x1, x2, x3⟩ := showN I h.1.2 (by omega) h1 hv
        have kk : Rep X.K H (keyD k') (kV k') ∧ RelV (kV k') e.key := by
          rw [hk1]
          rcases keyIs_shape a with ⟨i, t, ek, ev⟩ | ⟨x, t, ek, ev⟩
          · rw [ek, ev]
            exact ⟨by show Rep X.K H (.int i) (.int i); rw [Rep], t, rfl⟩
          · rw [ek, ev]
            exact ⟨by show Rep X.K H (.str x) (.str x); rw [Rep], t, rfl⟩
        obtain ⟨g3, g4⟩ := showF (X := X) (s := s) (bs := b1 ++ b2) (n := PyData.depthKv (pyNk ((keyD k', d) :: l))) h.1.1 (by omega) kk.1 kk.2
        have z0 := (flX_len h.1.1).2.1
        have l1 : (pyN d).depth ≤ PyData.depthKv (pyNk ((keyD k', d) :: l)) := by rw [pyNk, PyData.depthKv]; omega
        have l2 : PyData.depthKv (pyNk l) ≤ PyData.depthKv (pyNk ((keyD k', d) :: l)) := by rw [pyNk, PyData.depthKv]; omega
        refine ⟨a1 ++ a2, b1 ++ b2, by rw [pyNk]; exact .cons (as := []) (bs := []) g3 i1, by rw [pyNk]; exact .cons x1 i2, (x2.mono l1).append (i4.mono l2), ?_⟩
        have z3 := (x3.more fun b hb => List.mem_append_left b2 hb).level_le l1
        have y3 := ents_more (fun b hb => List.mem_append_right b1 hb) l2 i3
        generalize PyData.depthKv (pyNk ((keyD k', d) :: l)) = lev at *
        rw [pyNk, PyData.shownKv]
        exact .cons g4 z3 y3
end
end
def rpN (d : D) : Str := (pyN d).shown
def fReprN (d : D) : Option O := if (okN d && decide (wtN d ≤ sizeLine) && decide (dpN d ≤ 60)) = true then some (.d (.str (rpN d))) else none
theorem fReprN_ok {d : D} (h : okN d = true) (hw : wtN d ≤ sizeLine) (hd : dpN d ≤ 60) : fReprN d = some (.d (.str (rpN d))) := by
  unfold fReprN
  rw [h, decide_eq_true hw, decide_eq_true hd]; rfl
section
variable {X : Cx}
theorem cr_reprN (hg : X.A.guards = some []) (hu : X.A.units + 64 < cLine) : CallR X (.builtin "repr") (fun vs H Q => ∃ (x : V) (d : D), vs = [x] ∧ Rep X.K H d x ∧ okN d = true ∧ wtN d ≤ sizeLine ∧ dpN d ≤ 60 ∧ Q (.str (rpN d)) H) := by
  intro pins s σ H vs us Q I r h
  obtain ⟨x, d, rfl, hp, hs, hz, hdp, q⟩ := h
  cases r with
  | cons r1 r2 =>
    rename_i u ut
    cases r2
    obtain ⟨hl, hdep⟩ := okN_len hs
    have hsz : (pyN d).shown.length ≤ sizeLine := Nat.le_trans hl hz
    unfold rpN at q
    cases d with
    | non =>
      rw [Rep] at hp; subst hp
      cases (show u = Value.none from r1)
      exact PySem.P.repr_of_none ⟨.str _, H, I.tok _, ⟨_, rfl⟩, by simpa only [pyN, PyData.shown] using q⟩
    | bl b =>
      rw [Rep] at hp; subst hp
      cases (show u = Value.bool b from r1)
      exact PySem.P.repr_of_bool ⟨.str _, H, I.tok _, ⟨_, rfl⟩, by simpa only [pyN, PyData.shown] using q⟩
    | int i =>
      rw [okN] at hs
      rw [Rep] at hp; subst hp
      obtain ⟨t, rfl⟩ := (show ∃ t, u = Value.int i t from r1)
      exact PySem.P.repr_of_int (of_decide_eq_true hs) ⟨.str _, H, I.tok _, ⟨_, rfl⟩, by simpa only [pyN, PyData.shown] using q⟩
    | str y =>
      rw [Rep] at hp; subst hp
      obtain ⟨t, rfl⟩ := (show ∃ t, u = Value.str y t from r1)
      exact PySem.P.repr_of_str ⟨.str _, H, I.tok _, ⟨_, rfl⟩, by simpa only [pyN, PyData.shown] using q⟩ (by simpa only [pyN, PyData.shown] using hsz)
    | tup l =>
      rw [okN] at hs
      rw [wtN] at hz
      rw [Rep] at hp
      obtain ⟨a, vs, e1, h1, h2⟩ := hp
      subst e1
      cases (show u = Value.ref a from r1)
      obtain ⟨its, rv, ⟨o, g1, g2, n, g3⟩, _⟩ := I.tuple h1
      obtain ⟨as, bs, k1, k2, k3⟩ := showsN I hs (by omega) h2 rv
      have rr : Reads s.heap (.ref a) (.tuple (pyNs l)) as := .tuple g1 g2 g3 (by simpa using k1)
      have hna : a ∉ bs := not_mem_of_deeper rr (by simp only [PyData.depth]; omega) k2
      simp only [pyN, PyData.shown, PyData.depth] at q hsz hdep
      exact call_repr_slot (by omega) ⟨o, g1, g2⟩ F.slot_tuple_repr (call_tuple_reprK g1 g2 g3 hna (by simpa using k3) hg (fun b _ => Clear.nil b) (by show X.A.units + 1 + (PyData.depthAll (pyNs l) + 1) < cLine; omega) (fun _ _ e => e) (fun h' u tk hk => ⟨_, _, rfl, ⟨.str _, H, I.kept (t' := tk) hk, ⟨u, rfl⟩, q⟩⟩) hsz)
    | lst l =>
      rw [okN] at hs
      rw [wtN] at hz
      rw [Rep] at hp
      obtain ⟨a, vs, e1, h1, h2⟩ := hp
      subst e1
      cases (show u = Value.ref a from r1)
      obtain ⟨its, rv, hl2, _⟩ := I.list h1
      obtain ⟨o, g1, g2, n, g3⟩ := hl2.isList
      obtain ⟨as, bs, k1, k2, k3⟩ := showsN I hs (by omega) h2 rv
      have rr : Reads s.heap (.ref a) (.list (pyNs l)) (a :: as) := .list g1 g2 g3 (by simpa using k1)
      have hna : a ∉ bs := not_mem_of_deeper rr (by simp only [PyData.depth]; omega) k2
      simp only [pyN, PyData.shown, PyData.depth] at q hsz hdep
      cases its with
      | nil =>
        cases rv
        cases l with
        | nil =>
          rw [pyNs, PyData.shownAll, listText_nil] at q
          exact call_repr_slot (by omega) ⟨o, g1, g2⟩ F.slot_list_repr.toG (call_list_repr_empty ⟨o, g1, g2⟩ g1 g3 ⟨_, _, rfl, ⟨.str _, H, I.tok _, ⟨_, rfl⟩, q⟩⟩)
        | cons y l =>
          rw [Reps] at h2
          obtain ⟨_, _, z, _⟩ := h2
          cases z
      | cons y its =>
        exact call_repr_slot (by omega) ⟨o, g1, g2⟩ F.slot_list_repr.toG (call_list_reprK g1 g2 g3 hna (by simpa using k3.length_eq) (fun i y e => k3.item i y (by simpa using e)) hg (fun b _ => Clear.nil b) (by show X.A.units + 1 + (PyData.depthAll (pyNs l) + 1) < cLine; omega) (fun _ _ e => e) (fun h' u tk hk => ⟨_, _, rfl, ⟨.str _, H, I.kept (t' := tk) hk, ⟨u, rfl⟩, q⟩⟩) hsz)
    | dct l =>
      rw [okN] at hs
      rw [wtN] at hz
      rw [Rep] at hp
      obtain ⟨a, kvs, e1, h1, h2⟩ := hp
      subst e1
      cases (show u = Value.ref a from r1)
      obtain ⟨_, hsys, vs, kv, o, es, ep, g1, g2, g3, _, g5, _⟩ := dk_rd I.hok h1
      obtain ⟨as, bs, k1, k2, k4, k3⟩ := showNk I hs (by omega) h2 kv g5
      have rr : Reads s.heap (.ref a) (.dict (pyNk l)) (a :: [] ++ as) := .dict g1 g2.1 g3 k1 k2
      have hna : a ∉ bs := not_mem_of_deeper rr (by simp only [PyData.depth]; omega) k4
      simp only [pyN, PyData.shown, PyData.depth] at q hsz hdep
      exact call_repr_slot (by omega) ⟨o, g1, g2.1⟩ F.slot_dict_repr (call_dict_reprK g1 g2.1 g3 hsys hna k3 hg (fun b _ => Clear.nil b) (by show X.A.units + 1 + (PyData.depthKv (pyNk l) + 1) < cLine; omega) (fun _ _ e => e) (fun h' u tk hk => ⟨_, _, rfl, ⟨.str _, H, I.kept (t' := tk) hk, ⟨u, rfl⟩, q⟩⟩) hsz)
    | obj _ _ _ => simp [okN] at hs
end
section
variable {Γ : Gm}
theorem ok_reprN : OkC Γ (.builtin "repr") (w1 fReprN) := okC1 fun X ok H L x d o hS lx hF Q q => by
  unfold fReprN at hF
  by_cases hz : (okN d && decide (wtN d ≤ sizeLine) && decide (dpN d ≤ 60)) = true
  · rw [if_pos hz] at hF
    have e1 := Option.some.inj hF
    subst e1
    simp only [Bool.and_eq_true, decide_eq_true_eq] at hz
    exact ⟨_, cr_reprN ok.gd ok.room.units, x, d, rfl, by rw [ok.hK]; exact lx.rep hS, hz.1.1, hz.1.2, hz.2, q _ H (hS.flat rfl)⟩
  · rw [if_neg hz] at hF; cases hF
end
theorem okNs_all {l : List D} (h : ∀ x ∈ l, okN x = true) : okNs l = true := by
  induction l with
  | nil => rw [okNs]
  | cons x l ih => rw [okNs, h x List.mem_cons_self, ih fun y hy => h y (List.mem_cons_of_mem _ hy)]; rfl
theorem wtNs_map {α : Type} {f : α → D} {B : Nat} : ∀ {l : List α}, (∀ x ∈ l, wtN (f x) ≤ B) → wtNs (l.map f) ≤ l.length * (B + 2)
  | [], _ => by simp [wtNs]
  | x :: l, h => by
    have a := h x List.mem_cons_self
    have b := wtNs_map (l := l) fun y hy => h y (List.mem_cons_of_mem _ hy)
    rw [List.map_cons, wtNs, List.length_cons, Nat.add_mul]
    omega
theorem dpNs_map {α : Type} {f : α → D} {B : Nat} : ∀ {l : List α}, (∀ x ∈ l, dpN (f x) ≤ B) → dpNs (l.map f) ≤ B
  | [], _ => by simp [dpNs]
  | x :: l, h => by
    have a := h x List.mem_cons_self
    have b := dpNs_map (l := l) fun y hy => h y (List.mem_cons_of_mem _ hy)
    rw [List.map_cons, dpNs]
    omega
end BM
set_option Elab.async false
set_option linter.all false
set_option maxRecDepth 100000
set_option maxHeartbeats 4000000
namespace BM
open PySem PySem.Spec PyProof.Rows L2
variable [Tb]
theorem x_popAt {i v : Nat} {me : M O} {s s1 : Env} {xs ys : List O} {y : O} (h0 : s[i]? = some (some (.lst xs))) (h1 : me s = some (.d (dn v), s1)) (h2 : s1[i]? = some (some (.lst ys))) (hy : ys[v]? = some y) : mPopAt i me s = some (y, s1.set i (some (.lst (ys.eraseIdx v)))) := by
  have hv : v < ys.length := (List.getElem?_eq_some_iff.mp hy).1
  have e : ixN ys.length ((v : Nat) : Int) = some v := by
    unfold ixN
    rw [if_pos (by omega), if_pos (by omega)]
    simp
  unfold mPopAt
  simp only [h0, h1, h2, e, hy]
theorem leaf_getM {α : Type} (emb : α → D) {l : List α} {v : Nat} {x : α} (h : l[v]? = some x) : (leaf (l.map emb))[v]? = some (.d (emb x)) := by
  rw [leaf, List.map_map, List.getElem?_map, h]; rfl
theorem leaf_eraseM {α : Type} (emb : α → D) (l : List α) (v : Nat) : (leaf (l.map emb)).eraseIdx v = leaf ((l.eraseIdx v).map emb) := by
  rw [leaf, leaf, List.map_map, List.map_map]
  induction l generalizing v with
  | nil => rfl
  | cons x l ih =>
    cases v with
    | zero => rfl
    | succ v => rw [List.map_cons, List.eraseIdx_cons_succ, List.eraseIdx_cons_succ, List.map_cons, ih]
theorem x_popL {α : Type} {emb : α → D} {i v : Nat} {me : M O} {s s1 : Env} {xs : List O} {l : List α} {x : α} (h0 : s[i]? = some (some (.lst xs))) (h1 : me s = some (.d (dn v), s1)) (h2 : s1[i]? = some (some (.lst (leaf (l.map emb))))) (hx : l[v]? = some x) :
    mPopAt i me s = some (.d (emb x), s1.set i (some (.lst (leaf ((l.eraseIdx v).map emb))))) := by
  rw [x_popAt h0 h1 h2 (leaf_getM emb hx), leaf_eraseM]
end BM
set_option Elab.async false
set_option linter.all false
set_option maxRecDepth 100000
set_option maxHeartbeats 4000000
namespace BM
open PySem PySem.Spec PyProof.Rows L2
end BM
set_option Elab.async false
set_option linter.all false
set_option maxRecDepth 100000
set_option maxHeartbeats 4000000
namespace BM
open PySem PySem.Spec PyProof.Rows L2
variable [Tb]
section
variable {K : PySem.W.Frag} {H : Hp} {L : List It}
theorem repKs_two {G : Hp} : ∀ {l : List (D × D)} {kvs : List (Key × V)}, RepKs K G l kvs → l.map (·.1) = kvs.map (fun p => keyD p.1) ∧ Reps K G (l.map (·.2)) (kvs.map (·.2))
  | [], kvs, h => by
    rw [RepKs] at h
    subst h
    exact ⟨rfl, by rw [List.map_nil, List.map_nil, Reps]⟩
  | (k, d) :: l, kvs, h => by
    rw [RepKs] at h
    obtain ⟨k', v, r, e1, e2, h1, h2⟩ := h
    subst e1 e2
    obtain ⟨i1, i2⟩ := repKs_two h2
    refine ⟨by rw [List.map_cons, List.map_cons, i1], ?_⟩
    rw [List.map_cons, List.map_cons, Reps]
    exact ⟨v, _, rfl, h1, i2⟩
theorem St.read_dct {l : List (D × D)} {v : V} (h : St K H (.rep (.d (.dct l)) v :: L)) :
    ∃ a kvs, v = .ref a ∧ Rd H a (.dK kvs) ∧ l.map (·.1) = kvs.map (fun p => keyD p.1) ∧ (l.map (·.2)).length = (kvs.map (·.2)).length ∧ St K H (reps (leaf (l.map (·.2))) (kvs.map (·.2)) ++ (.rep (.d (.dct l)) v :: L)) := by
  obtain ⟨G, fp, s, ⟨f1, f2, e, h2, h3⟩, nd, hg⟩ := h
  have h2' : Own K G H (.d (.dct l)) v f1 := h2
  have h2s := h2'
  rw [Own, Rep] at h2'
  obtain ⟨e1, a, kvs, h4, h5, h6⟩ := h2'
  subst e1 e
  obtain ⟨i1, i2⟩ := repKs_two h6
  exact ⟨a, kvs, h4, Same.rd s h5, i1, i2.length, G, _, s, Sep.appT (leaf_reps i2) ⟨[], _, rfl, h2s, h3⟩, nd, hg⟩
theorem Look.dct {l : List (D × D)} {v : V} (h : St K H L) (k : Look L (.dct l) v) :
    ∃ a kvs, v = .ref a ∧ Rd H a (.dK kvs) ∧ l.map (·.1) = kvs.map (fun p => keyD p.1) ∧ (l.map (·.2)).length = (kvs.map (·.2)).length ∧ St K H (reps (leaf (l.map (·.2))) (kvs.map (·.2)) ++ L) := by
  obtain ⟨o, hm, hf⟩ := k
  obtain ⟨r, p⟩ := mem_perm hm
  cases o with
  | d x =>
    have e := Option.some.inj (show some x = some (D.dct l) from hf)
    subst e
    obtain ⟨a, kvs, h1, h2, h3, h4, h5⟩ := (h.perm p).read_dct
    exact ⟨a, kvs, h1, h2, h3, h4, h5.perm (p.symm.append_left _)⟩
  | lst os =>
    have h' : (match O.leafs os with | some l => some (D.lst l) | none => none) = some (D.dct l) := hf
    cases q : O.leafs os with
    | none => rw [q] at h'; cases h'
    | some l => rw [q] at h'; cases h'
  | dct ks os =>
    have h' : (match O.leafs os with | some l => some (D.dct (ks.zip l)) | none => none) = some (D.dct l) := hf
    cases q : O.leafs os with
    | none => rw [q] at h'; cases h'
    | some ds =>
      rw [q] at h'
      have e := Option.some.inj h'
      injection e with e
      have e2 := leafs_eq q
      subst e2 e
      have h1 := h.perm p
      obtain ⟨a, kvs, e1, ek, hl, h2⟩ := h1.open_dct
      subst e1 ek
      have hl' : ds.length = (kvs.map (·.2)).length := by rw [leaf_len] at hl; exact hl
      have z1 : ((kvs.map fun p => keyD p.1).zip ds).map (·.1) = kvs.map fun p => keyD p.1 := List.map_fst_zip (by rw [List.length_map] at hl' ⊢; omega)
      have z2 : ((kvs.map fun p => keyD p.1).zip ds).map (·.2) = ds := List.map_snd_zip (by rw [List.length_map] at hl' ⊢; omega)
      refine ⟨a, kvs, rfl, .inl h2.raw_at, z1, by rw [z2]; exact hl', ?_⟩
      rw [z2]
      have h3 : St K H (reps (leaf ds) (kvs.map (·.2)) ++ (.raw a (.dK kvs) :: r)) := h2.perm List.perm_middle.symm
      have h4 := St.many (R' := reps (leaf ds) (kvs.map (·.2))) (fun x hx => ⟨hx, by
        rw [reps_zip hl'] at hx
        obtain ⟨y, _, rfl⟩ := List.mem_map.mp hx
        exact ⟨_, _, rfl⟩⟩) h3
      have h5 : St K H (.raw a (.dK kvs) :: (reps (leaf ds) (kvs.map (·.2)) ++ (reps (leaf ds) (kvs.map (·.2)) ++ r))) := h4.perm (by
        refine (List.Perm.append_left _ List.perm_middle).trans ?_
        exact List.perm_middle)
      have h6 := St.close_dct (os := leaf ds) hl h5
      exact h6.perm ((List.perm_middle.symm).trans (p.symm.append_left _))
  | obj C ns os =>
    have h' : (match O.leafs os with | some l => some (D.obj C ns l) | none => none) = some (D.dct l) := hf
    cases q : O.leafs os with
    | none => rw [q] at h'; cases h'
    | some l => rw [q] at h'; cases h'
end
end BM
set_option Elab.async false
set_option linter.all false
set_option maxRecDepth 100000
set_option maxHeartbeats 4000000
namespace PySem
open Sem (wp)
end PySem
set_option Elab.async false
set_option linter.all false
set_option maxRecDepth 100000
set_option maxHeartbeats 4000000
namespace BM
open PySem PySem.Spec PyProof.Rows L2
variable [Tb]
/-- a zip on its way, while the list S is filled -/
def ZV (c1 c2 : Bool) (h : Heap) (z TI TO i1 i2 l1 l2 S : Addr) (xs ys : Array Value) (i : Nat) : Prop :=
  IsPair h TI (.ref i1) (.ref i2) ∧ BMIter h c1 i1 l1 i ∧ BMIter h c2 i2 l2 i ∧ BMSeq h c1 l1 xs ∧ BMSeq h c2 l2 ys ∧
    ((IsZip h z TI TO .none ∧ ∃ a b, IsPair h TO a b) ∨ ∃ T f oT, IsZipHeld h z TI TO T f ∧ h.get? T = some oT ∧ T ≠ z ∧ T ≠ i1 ∧ T ≠ i2 ∧ T ≠ S)
theorem ZV.keep {c1 c2 : Bool} {h h' : Heap} {z TI TO i1 i2 l1 l2 S : Addr} {xs ys : Array Value} {i : Nat} (st : ZV c1 c2 h z TI TO i1 i2 l1 l2 S xs ys i) (hk : ∀ b o, b ≠ S → h.get? b = some o → h'.get? b = some o)
    (n1 : z ≠ S) (n2 : TI ≠ S) (n3 : TO ≠ S) (n4 : i1 ≠ S) (n5 : i2 ≠ S) (n6 : l1 ≠ S) (n7 : l2 ≠ S) : ZV c1 c2 h' z TI TO i1 i2 l1 l2 S xs ys i := by
  obtain ⟨hTI, h1, h2, hl1, hl2, hz⟩ := st
  refine ⟨hk _ _ n2 hTI, h1.at fun o e => hk _ o n4 e, h2.at fun o e => hk _ o n5 e, hl1.at fun o e => hk _ o n6 e, hl2.at fun o e => hk _ o n7 e, ?_⟩
  rcases hz with ⟨hz, a, b, hTO⟩ | ⟨T, f, oT, hz, hT, r1, r2, r3, r4⟩
  · exact .inl ⟨hk _ _ n1 hz, a, b, hk _ _ n3 hTO⟩
  · exact .inr ⟨T, f, oT, hk _ _ n1 hz, hk _ _ r4 hT, r1, r2, r3, r4⟩
/-- list(zip(x, y)) -/
def mZipV (m1 m2 : M O) : M O := fun s => match mArgs [m1, m2] s with
  | some ([o1, o2], s') => match listOfD o1.toD, listOfD o2.toD with
    | some l1, some l2 => some (.lst (leaf (zipD l1 l2)), s')
    | _, _ => none
  | _ => none
def zipVK (a b : O) (s : Env) : Option (O × Env) := match listOfD a.toD, listOfD b.toD with
  | some l1, some l2 => some (.lst (leaf (zipD l1 l2)), s)
  | _, _ => none
theorem e_zipV (a b : M O) (s : Env) : mZipV a b s = ob (a s) fun o1 s1 => ob (b s1) fun o2 s2 => zipVK o1 o2 s2 := by
  unfold mZipV
  rw [e_args]
  cases ha : a s with
  | none => rfl
  | some p =>
    rw [ob_some, ob_some, e_args]
    cases hb : b p.2 with
    | none => rfl
    | some q =>
      rw [ob_some, ob_some, e_args0, ob_some, ob_some]
      rfl
end BM
set_option Elab.async false
set_option linter.all false
set_option maxRecDepth 100000
set_option maxHeartbeats 4000000
namespace BM
open PySem PySem.Spec PyProof.Rows L2
end BM
set_option Elab.async false
set_option linter.all false
set_option maxRecDepth 100000
set_option maxHeartbeats 4000000
namespace BM
open PySem PySem.Spec PyProof.Rows L2
end BM
set_option Elab.async false
set_option linter.all false
set_option maxRecDepth 100000
set_option maxHeartbeats 4000000
namespace BM
open PySem PySem.Spec PyProof.Rows L2
end BM
set_option Elab.async false
set_option linter.all false
set_option maxRecDepth 100000
set_option maxHeartbeats 4000000
namespace BM
open PySem PySem.Spec PyProof.Rows L2
end BM
set_option Elab.async false
set_option linter.all false
set_option maxRecDepth 100000
set_option maxHeartbeats 4000000
namespace BM
open PySem PySem.Spec PyProof.Rows L2
end BM
set_option Elab.async false
set_option linter.all false
set_option maxRecDepth 100000
set_option maxHeartbeats 4000000
namespace BM
open PySem PySem.Spec PyProof.Rows L2
end BM
set_option Elab.async false
set_option linter.all false
set_option maxRecDepth 100000
set_option maxHeartbeats 4000000
namespace BM
open PySem PySem.Spec PyProof.Rows L2
end BM
set_option Elab.async false
set_option linter.all false
set_option maxRecDepth 100000
set_option maxHeartbeats 4000000
namespace BM
open PySem
open Sem (wp)
/-- a sleeper that must not be woken -/
def dead : Resume → Sem PySem.Fin := fun _ => .unsupported ""
def gf : GenState → Prop
  | .suspended _ _ _ _ fs _ => splitAtGen fs = none
  | _ => True
def GP (x y : GenState) : Prop := (∃ k l c p fs cl, x = .suspended dead l c p fs cl ∧ y = .suspended k l c p fs cl) ∨ (x = y ∧ gf x)
def GR (a b : Array GenState) : Prop := a.size = b.size ∧ ∀ (i : Nat) (x : GenState), a[i]? = some x → ∃ y, b[i]? = some y ∧ GP x y
/-- the dead ones stay -/
def Pres (a b a' b' : Array GenState) : Prop := ∀ (i : Nat) (l : List Value) (c : Code) (p : Pos) (fs : List Frame) (cl : Bool), a[i]? = some (.suspended dead l c p fs cl) → a'[i]? = some (.suspended dead l c p fs cl) ∧ b'[i]? = b[i]?
theorem Pres.refl {a b : Array GenState} : Pres a b a b := fun _ _ _ _ _ _ h => ⟨h, rfl⟩
theorem Pres.trans {a b a1 b1 a2 b2 : Array GenState} (h : Pres a b a1 b1) (h' : Pres a1 b1 a2 b2) : Pres a b a2 b2 := fun i l c p fs cl e => by
  obtain ⟨e1, e2⟩ := h i l c p fs cl e
  obtain ⟨e3, e4⟩ := h' i l c p fs cl e1
  exact ⟨e3, e4.trans e2⟩
theorem GP.bare {x y : GenState} (h : GP x y) : x.bare = y.bare := by
  rcases h with ⟨k, l, c, p, fs, cl, rfl, rfl⟩ | ⟨rfl, _⟩
  · rfl
  · rfl
theorem GR.push {a b : Array GenState} {x : GenState} (h : GR a b) (g : gf x) : GR (a.push x) (b.push x) := by
  refine ⟨by simp [h.1], fun i y e => ?_⟩
  rw [Array.getElem?_push] at e ⊢
  by_cases hi : i = a.size
  · rw [if_pos hi] at e
    rw [if_pos (hi.trans h.1)]
    cases e
    exact ⟨x, rfl, .inr ⟨rfl, g⟩⟩
  · rw [if_neg hi] at e
    rw [if_neg fun z => hi (z.trans h.1.symm)]
    exact h.2 i y e
theorem GR.set {a b : Array GenState} {x : GenState} {j : Nat} (h : GR a b) (g : gf x) : GR (a.setIfInBounds j x) (b.setIfInBounds j x) := by
  refine ⟨by simp [h.1], fun i y e => ?_⟩
  rw [Array.getElem?_setIfInBounds] at e ⊢
  by_cases hi : j = i
  · subst hi
    rw [if_pos rfl] at e ⊢
    by_cases hl : j < a.size
    · rw [if_pos hl] at e
      rw [if_pos (h.1 ▸ hl)]
      cases e
      exact ⟨x, rfl, .inr ⟨rfl, g⟩⟩
    · rw [if_neg hl] at e; cases e
  · rw [if_neg hi] at e ⊢
    exact h.2 i y e
theorem Pres.push {a b : Array GenState} {x : GenState} (h : a.size = b.size) : Pres a b (a.push x) (b.push x) := fun i l c p fs cl e => by
  have hi : i < a.size := (Array.getElem?_eq_some_iff.mp e).1
  rw [Array.getElem?_push, if_neg (Nat.ne_of_lt hi), Array.getElem?_push, if_neg (Nat.ne_of_lt (h ▸ hi))]
  exact ⟨e, rfl⟩
theorem Pres.set {a b : Array GenState} {x y : GenState} {j : Nat} (e : a[j]? = some y) (hy : ∀ l c p fs cl, y ≠ .suspended dead l c p fs cl) : Pres a b (a.setIfInBounds j x) (b.setIfInBounds j x) := fun i l c p fs cl e' => by
  have hi : j ≠ i := fun z => by
    subst z
    rw [e] at e'
    exact hy l c p fs cl (Option.some.inj e')
  rw [Array.getElem?_setIfInBounds, if_neg hi, Array.getElem?_setIfInBounds, if_neg hi]
  exact ⟨e', rfl⟩
/-- the sleepers of a are as they were -/
def Slp (a b : Array GenState) : Prop := ∀ (i : Nat) (k : Resume → Sem PySem.Fin) (l : List Value) (c : Code) (p : Pos) (fs : List Frame) (cl : Bool), a[i]? = some (.suspended k l c p fs cl) → b[i]? = some (.suspended k l c p fs cl)
theorem Slp.refl {a : Array GenState} : Slp a a := fun _ _ _ _ _ _ _ h => h
theorem Slp.trans {a b c : Array GenState} (h : Slp a b) (h' : Slp b c) : Slp a c := fun i k l c' p fs cl e => h' i k l c' p fs cl (h i k l c' p fs cl e)
theorem GR.bare {a b : Array GenState} (h : GR a b) (n : ∀ x ∈ a, x.bare = true) : ∀ x ∈ b, x.bare = true := fun x hx => by
  obtain ⟨i, hi, rfl⟩ := Array.mem_iff_getElem.mp hx
  have hi' : i < a.size := h.1 ▸ hi
  obtain ⟨y, e, gp⟩ := h.2 i a[i] (Array.getElem?_eq_getElem hi')
  rw [Array.getElem?_eq_getElem hi] at e
  cases e
  rw [← gp.bare]
  exact n _ (Array.getElem_mem hi')
end BM
set_option Elab.async false
set_option linter.all false
set_option maxRecDepth 100000
set_option maxHeartbeats 4000000
namespace BM
open PySem PySem.Spec PyProof.Rows
open Sem (wp)
end BM
set_option Elab.async false
set_option linter.all false
set_option maxRecDepth 100000
set_option maxHeartbeats 4000000
namespace BM
open PySem PySem.Spec PyProof.Rows L2 GenW
variable [Tb]
def extO (h : Heap) (b : Addr) : HO := .ext fun h' => h'.get? b = h.get? b
def trk1 (h : Heap) (pl : List Addr) (H : Hp) : Hp := fun b => if b ∈ pl then some (extO h b) else H b
section
variable {P : Program} {w : World} {H : Hp} {h : Heap} {pl : List Addr}
theorem hok_track (x : HOk P w H h) (hn : ∀ b ∈ pl, H b = none ∧ ∃ o, h.get? b = some o) : HOk P w (trk1 h pl H) h := fun b u q => by
  unfold trk1 at q
  by_cases hb : b ∈ pl
  · rw [if_pos hb] at q
    cases q
    obtain ⟨_, o, ho⟩ := hn b hb
    exact ⟨rfl, ⟨o, ho⟩, fun h1 h2 e k => by
      have e : h1.get? b = h.get? b := e
      show h2.get? b = h.get? b
      rw [ho] at e ⊢
      exact k o e⟩
  · rw [if_neg hb] at q
    refine (x b u q).stay (fun c v _ z => z) (fun c z => ?_) fun c xs z => ?_
    · unfold trk1
      rw [if_neg fun hc => by rw [(hn c hc).1] at z; cases z]
      exact z
    · unfold trk1
      rw [if_neg fun hc => by rw [(hn c hc).1] at z; cases z]
      exact z
end
def cutH (n : Nat) (h : Heap) : Heap := { h with objs := h.objs.extract 0 n }
theorem cutH_get {n : Nat} {h : Heap} {b : Addr} (hb : b < n) : (cutH n h).get? b = h.get? b := by
  have e : (h.objs.extract 0 n)[b]? = h.objs[b]? := by
    rw [Array.getElem?_extract]
    by_cases hs : b < h.objs.size
    · rw [if_pos (show b < min n h.objs.size - 0 from Nat.lt_min.mpr ⟨hb, hs⟩)]
      exact congrArg (fun j => h.objs[j]?) (Nat.zero_add b)
    · rw [if_neg (show ¬ b < min n h.objs.size - 0 from fun z => hs (Nat.lt_min.mp z).2), Array.getElem?_eq_none (Nat.le_of_not_lt hs)]
  unfold Heap.get?
  rw [show (cutH n h).objs[b]? = h.objs[b]? from e]
structure GSt where
  Γ : Gm
  env : PySem.Env
  outer : List PySem.Env
  n0 : Nat
def isCell (o : Obj) : Bool := match o.data with
  | .cell _ => true
  | _ => false
/-- all else that is younger, not tracked, and no cell -/
def pns (n0 : Nat) (h : Heap) (H : Hp) : List (Addr × Obj) := (List.range h.objs.size).filterMap fun b => match h.get? b with
  | some o => if n0 ≤ b ∧ (H b).isNone = true ∧ isCell o = false then some (b, o) else none
  | none => none
theorem mem_pns {n0 : Nat} {h : Heap} {H : Hp} {b : Addr} {o : Obj} (h1 : h.get? b = some o) (h2 : n0 ≤ b) (h3 : H b = none) (h4 : isCell o = false) : (b, o) ∈ pns n0 h H :=
  List.mem_filterMap.mpr ⟨b, List.mem_range.mpr (Heap.lt_size h1), by rw [h1]; exact if_pos ⟨h2, by rw [h3]; rfl, h4⟩⟩
structure GSt.Ok (S : GSt) : Prop where
  sc : S.env.scope.names = S.Γ.sc
  kd : S.env.scope.kind = .function
  co : S.env.scope.isCoroutine = false
  glob : S.env.globals = mainGlobals
  blt : S.env.builtins = builtinsNs
  loc : S.n0 ≤ S.env.locals
  inj : ∀ x y c, S.env.cells.lookup x = some c → S.env.cells.lookup y = some c → x = y
  has : ∀ x, (S.env.kindOf x = some .cell ∨ S.env.kindOf x = some .free) → ∃ c, S.env.cells.lookup x = some c
  cel : ∀ x c, S.env.cells.lookup x = some c → S.n0 ≤ c
  frame : S.env.frame = some S.env.locals
  base : S.Γ.cfg.base.objs.size ≤ S.n0
  out : ∀ b ∈ frs S.outer, b < S.n0
  mod : Mod S.Γ.cfg.K S.Γ.cfg.mg S.Γ.cfg.base
  lbn : S.Γ.lb = none
/-- the context of the generator's frame, woken in s0 -/
def GSt.cx (S : GSt) (A' : Around) (s0 : Shared) (H0 : Hp) : Cx :=
  { prog := S.Γ.cfg.P, w := S.Γ.cfg.w, K := S.Γ.cfg.K, mg := S.Γ.cfg.mg, base := S.Γ.cfg.base, A := A', N := S.Γ.N, s_0 := { s0 with heap := cutH S.n0 s0.heap }, H_0 := H0,
    env := S.env, outer := S.outer, stack := S.env :: S.outer, ex := [], fn := S.Γ.fn, calm := true, pn := pns S.n0 s0.heap H0, xe := fun _ _ => False }
/-- its own addresses: its names' record, its cells, its iterators -/
def cellsL (env : PySem.Env) : List Addr := env.cells.filterMap fun p => env.cells.lookup p.1
theorem mem_cellsL {env : PySem.Env} {c : Addr} : c ∈ cellsL env ↔ ∃ x, env.cells.lookup x = some c := by
  unfold cellsL
  rw [List.mem_filterMap]
  constructor
  · rintro ⟨p, _, e⟩; exact ⟨p.1, e⟩
  · rintro ⟨x, e⟩; exact ⟨(x, c), PySem.mem_of_lookup e, e⟩
def GSt.own (S : GSt) (pins : List (Addr × Obj)) : List Addr := S.env.locals :: (cellsL S.env ++ pins.map (·.1))
def GSt.pl (S : GSt) (pins : List (Addr × Obj)) (h : Heap) : List Addr := (List.range h.objs.size).filter fun b => decide (b ∈ S.own pins)
end BM
set_option Elab.async false
set_option linter.all false
set_option maxRecDepth 100000
set_option maxHeartbeats 4000000
namespace BM
open PySem PySem.Spec PyProof.Rows L2 GenW
variable [Tb]
/-- from a waking to a rest: what is kept -/
structure After (S : GSt) (s0 : Shared) (H0 : Hp) (s : Shared) (H : Hp) : Prop where
  os : s.os = s0.os
  bare : AllBare s.gens
  hok : HOk S.Γ.cfg.P S.Γ.cfg.w H s.heap
  keep : ∀ b o, b < S.n0 → s0.heap.get? b = some o → H0 b = none → b ∉ frs S.outer → s.heap.get? b = some o
  slot : ∀ b o, b < S.n0 → s0.heap.get? b = some o → H0 b = none → b ∈ frs S.outer → ∃ sl, s.heap.get? b = some { o with slots := sl }
  free : ∀ b o, b < S.n0 → s0.heap.get? b = some o → H0 b = none → H b = none
  there : ∀ b o, b < S.n0 → s0.heap.get? b = some o → ∃ o', s.heap.get? b = some o'
  high : ∀ b o, S.n0 ≤ b → s0.heap.get? b = some o → H0 b = none → isCell o = false → s.heap.get? b = some o ∧ H b = none
  tups : ∀ b xs, H0 b = some (.tup xs) → H b = some (.tup xs)
  frzs : ∀ b o u, H0 b = some (.frz o u) → H b = some (.frz o u)
  tbls : ∀ b ps, H0 b = some (.tbl ps) → ∃ more, H b = some (.tbl (ps ++ more))
/-- its own records: tracked, or not there -/
def GSt.Own0 (S : GSt) (s0 : Shared) (H0 : Hp) (pins : List (Addr × Obj)) : Prop := S.n0 ≤ s0.heap.objs.size ∧ ∀ b ∈ S.own pins, ∀ o, s0.heap.get? b = some o → H0 b = none → isCell o = true
def GSt.PinOk (S : GSt) (pins : List (Addr × Obj)) : Prop := ∀ p ∈ pins, p.1 ≠ S.env.locals ∧ S.n0 ≤ p.1 ∧ (∀ x c, S.env.cells.lookup x = some c → c ≠ p.1) ∧ ∀ v, p.2.data ≠ .cell v
section
variable {S : GSt} {A : Around} {s s0 : Shared} {H H0 : Hp} {pins : List (Addr × Obj)} {σ : L2.St}
/-- at rest -/
theorem GSt.rest_own (ok : S.Ok) {A' : Around} (I : Inv (S.cx A' s0 H0) pins σ H s) : ∀ b ∈ S.own pins, H b = none ∧ ∃ o, s.heap.get? b = some o := fun b hb => by
  rcases List.mem_cons.mp hb with rfl | hb
  · obtain ⟨m, ⟨o, _, _, ho, _⟩, _⟩ := I.loc
    exact ⟨I.free, o, ho⟩
  · rcases List.mem_append.mp hb with hb | hb
    · obtain ⟨x, e⟩ := mem_cellsL.mp hb
      obtain ⟨v, o, ho, _⟩ := I.cell x b e
      exact ⟨I.freeC x b e, o, ho⟩
    · obtain ⟨p, hp, rfl⟩ := List.mem_map.mp hb
      obtain ⟨e, n, _⟩ := I.pin p (List.mem_append_right _ hp)
      exact ⟨n, _, e⟩
theorem GSt.own_low (ok : S.Ok) (hp : S.PinOk pins) : ∀ b ∈ S.own pins, S.n0 ≤ b := fun b hb => by
  rcases List.mem_cons.mp hb with rfl | hb
  · exact ok.loc
  · rcases List.mem_append.mp hb with hb | hb
    · obtain ⟨x, e⟩ := mem_cellsL.mp hb
      exact ok.cel x b e
    · obtain ⟨p, hp', rfl⟩ := List.mem_map.mp hb
      exact (hp p hp').2.1
/-- what is promised of the stretch, whatever of its own is tracked behind it -/
theorem GSt.after (ok : S.Ok) {A' : Around} (I : Inv (S.cx A' s0 H0) pins σ H s) (hp : S.PinOk pins) (own : S.Own0 s0 H0 pins) {pl : List Addr} (hpl : ∀ b ∈ pl, b ∈ S.own pins) : After S s0 H0 s (trk1 s.heap pl H) := by
  have rest := GSt.rest_own ok I
  have low := GSt.own_low ok hp
  have off : ∀ b u, H b = some u → trk1 s.heap pl H b = some u := fun b u e => by
    unfold trk1
    rw [if_neg fun hb => by rw [(rest b (hpl b hb)).1] at e; cases e]
    exact e
  refine ⟨I.os, I.bare, hok_track I.hok fun b hb => rest b (hpl b hb), fun b o hb e n nf => ?_, fun b o hb e n nf => ?_, fun b o hb e n => ?_, fun b o hb e => ?_, fun b o hb e n nc => ?_, fun b xs e => off _ _ (I.base.tups b xs e), fun b o u e => off _ _ (I.base.frzs b o u e), fun b ps e => ?_⟩
  · exact I.base.keep b o (by show (cutH S.n0 s0.heap).get? b = _; rw [cutH_get hb]; exact e) n nf (by simp [GSt.cx])
  · exact I.base.slot b o (by show (cutH S.n0 s0.heap).get? b = _; rw [cutH_get hb]; exact e) n nf (by simp [GSt.cx])
  · have z := I.base.free b o (by show (cutH S.n0 s0.heap).get? b = _; rw [cutH_get hb]; exact e) n (by simp [GSt.cx])
    unfold trk1
    rw [if_neg fun hm => absurd (Nat.lt_of_lt_of_le hb (low b (hpl b hm))) (Nat.lt_irrefl _)]
    exact z
  · exact I.base.there b o (by show (cutH S.n0 s0.heap).get? b = _; rw [cutH_get hb]; exact e) (by simp [GSt.cx])
  · obtain ⟨e1, e2, _⟩ := I.pin (b, o) (List.mem_append_left _ (mem_pns e hb n nc))
    refine ⟨e1, ?_⟩
    unfold trk1
    rw [if_neg fun hm => by rw [own.2 b (hpl b hm) o e n] at nc; cases nc]
    exact e2
  · obtain ⟨more, z⟩ := I.base.tbls b ps e
    exact ⟨more, off _ _ z⟩
end
end BM
set_option Elab.async false
set_option linter.all false
set_option maxRecDepth 100000
set_option maxHeartbeats 4000000
namespace BM
open PySem PySem.Spec PyProof.Rows L2 GenW
variable [Tb]
abbrev GM := Env → Option (List D × Fl × Env)
def gNil : GM := fun s => some ([], .nx, s)
end BM
set_option Elab.async false
set_option linter.all false
set_option maxRecDepth 100000
set_option maxHeartbeats 4000000
namespace BM
open PySem PySem.Spec PyProof.Rows L2 GenW
end BM
set_option Elab.async false
set_option linter.all false
set_option maxRecDepth 100000
set_option maxHeartbeats 4000000
namespace BM
open PySem PySem.Spec PyProof.Rows L2 GenW
end BM
set_option Elab.async false
set_option linter.all false
set_option maxRecDepth 100000
set_option maxHeartbeats 4000000
namespace BM
open PySem PySem.Spec PyProof.Rows L2 GenW
end BM
set_option Elab.async false
set_option linter.all false
set_option maxRecDepth 100000
set_option maxHeartbeats 4000000
namespace BM
open PySem PySem.Spec PyProof.Rows L2 GenW
variable [Tb]
def mGen (F : List D → Option (List D)) (π : List Nat) (ms : List (M O)) : M (List D) := fun s => match mArgs ms s with
  | some (os, s') => match F (permL π (O.toDs os)) with
    | some zs => some (zs, s')
    | none => none
  | none => none
end BM
set_option Elab.async false
set_option linter.all false
set_option maxRecDepth 100000
set_option maxHeartbeats 4000000
namespace BM
open PySem PySem.Spec PyProof.Rows L2 GenW
end BM
set_option Elab.async false
set_option linter.all false
set_option maxRecDepth 100000
set_option maxHeartbeats 4000000
namespace BM
open PySem PySem.Spec PyProof.Rows L2
variable [Tb]
theorem e_gen {s : Env} (F : List D → Option (List D)) (π : List Nat) (ms : List (M O)) : mGen F π ms s = ob (mArgs ms s) fun os s1 => oo (F (permL π (O.toDs os))) fun zs => some (zs, s1) := by
  unfold mGen
  cases mArgs ms s with
  | none => rfl
  | some r =>
    obtain ⟨os, s1⟩ := r
    rw [ob_some]
    simp only
    cases F (permL π (O.toDs os)) <;> rfl
end BM
set_option Elab.async false
set_option linter.all false
set_option maxRecDepth 100000
set_option maxHeartbeats 4000000
namespace BM
open PySem PySem.Spec PyProof.Rows L2
end BM
set_option Elab.async false
set_option linter.all false
set_option maxRecDepth 100000
set_option maxHeartbeats 2000000
namespace BM
open PySem PySem.Spec PyProof.Rows PyProof.Rows.G L2
end BM
set_option Elab.async false
set_option linter.all false
set_option maxRecDepth 100000
set_option maxHeartbeats 2000000
namespace BM
open PySem PySem.Spec PyProof.Rows PyProof.Rows.G L2
end BM
set_option Elab.async false
set_option linter.all false
set_option maxRecDepth 100000
set_option maxHeartbeats 2000000
namespace BM
open PySem PySem.Spec PyProof.Rows PyProof.Rows.G L2
end BM
set_option Elab.async false
set_option linter.all false
set_option maxRecDepth 100000
set_option maxHeartbeats 2000000
namespace BM
open PySem PySem.Spec PyProof.Rows L2
end BM
set_option Elab.async false
set_option linter.all false
set_option maxRecDepth 100000
set_option maxHeartbeats 4000000
namespace BM
open PySem PySem.Spec PyProof.Rows L2
end BM
set_option Elab.async false
set_option linter.all false
set_option maxRecDepth 100000
set_option maxHeartbeats 4000000
namespace BM
open PySem PySem.Spec PyProof.Rows L2
end BM
set_option Elab.async false
set_option linter.all false
set_option maxRecDepth 100000
set_option maxHeartbeats 4000000
namespace BM
open PySem PySem.Spec PyProof.Rows L2
end BM
set_option Elab.async false
set_option linter.all false
set_option maxRecDepth 100000
set_option maxHeartbeats 4000000
namespace BM
open PySem PySem.Spec PyProof.Rows L2
end BM
set_option Elab.async false
set_option linter.all false
set_option maxRecDepth 100000
set_option maxHeartbeats 4000000
namespace BM
open PySem PySem.Spec PyProof.Rows L2
end BM
set_option Elab.async false
set_option linter.all false
set_option maxRecDepth 100000
set_option maxHeartbeats 4000000
namespace BM
open PySem PySem.Spec PyProof.Rows PyProof.Rows.G L2
end BM
set_option Elab.async false
set_option linter.all false
set_option maxRecDepth 100000
set_option maxHeartbeats 4000000
namespace BM
open PySem PySem.Spec PyProof.Rows L2
end BM
set_option Elab.async false
set_option linter.all false
set_option maxRecDepth 100000
set_option maxHeartbeats 4000000
namespace BM
open PySem PySem.Spec PyProof.Rows L2
end BM
set_option Elab.async false
set_option linter.all false
set_option maxRecDepth 100000
set_option maxHeartbeats 4000000
namespace BM
open PySem PySem.Spec PyProof.Rows L2
end BM
set_option Elab.async false
set_option linter.all false
set_option maxRecDepth 100000
set_option maxHeartbeats 4000000
namespace BM
open PySem PySem.Spec PyProof.Rows L2
end BM
set_option Elab.async false
set_option linter.all false
set_option maxRecDepth 100000
set_option maxHeartbeats 4000000
namespace BM
open PySem PySem.Spec PyProof.Rows L2
end BM
set_option Elab.async false
set_option linter.all false
set_option maxRecDepth 100000
set_option maxHeartbeats 4000000
namespace BM
open PySem PySem.Spec PyProof.Rows L2
end BM
set_option Elab.async false
set_option linter.all false
set_option maxRecDepth 100000
set_option maxHeartbeats 4000000
namespace BM
open PySem PySem.Spec PyProof.Rows L2
end BM
set_option Elab.async false
set_option linter.all false
set_option maxRecDepth 100000
set_option maxHeartbeats 4000000
namespace BM
open PySem PySem.Spec PyProof.Rows L2
end BM
set_option Elab.async false
set_option linter.all false
set_option maxRecDepth 100000
set_option maxHeartbeats 4000000
namespace BM
open PySem PySem.Spec PyProof.Rows L2
end BM
set_option Elab.async false
set_option linter.all false
set_option maxRecDepth 100000
set_option maxHeartbeats 4000000
namespace BM
open PySem PySem.Spec PyProof.Rows L2
/-- words of letters -/
def ltW (x : Str) : Prop := ∀ c ∈ x.cps.toList, (97 ≤ c ∧ c ≤ 122) ∨ (65 ≤ c ∧ c ≤ 90)
theorem NmT.lt {x : Str} (h : NmT x) : ltW x := fun c hc => .inl (h.cs c hc)
end BM
set_option Elab.async false
set_option linter.all false
set_option maxRecDepth 100000
set_option maxHeartbeats 4000000
namespace BM
open PySem PySem.Spec PyProof.Rows L2
end BM
set_option Elab.async false
set_option linter.all false
set_option maxRecDepth 100000
set_option maxHeartbeats 4000000
namespace BM
open PySem PySem.Spec PyProof.Rows L2
end BM
set_option Elab.async false
set_option linter.all false
set_option maxRecDepth 100000
set_option maxHeartbeats 4000000
namespace BM
open PySem PySem.Spec PyProof.Rows L2
end BM
set_option Elab.async false
set_option linter.all false
set_option maxRecDepth 100000
set_option maxHeartbeats 4000000
namespace BM
open PySem PySem.Spec PyProof.Rows L2
end BM
set_option Elab.async false
set_option linter.all false
set_option maxRecDepth 100000
set_option maxHeartbeats 4000000
namespace BM
open PySem PySem.Spec PyProof.Rows L2
end BM
set_option Elab.async false
set_option linter.all false
set_option maxRecDepth 100000
set_option maxHeartbeats 4000000
namespace BM
open PySem PySem.Spec PyProof.Rows L2
end BM
set_option Elab.async false
set_option linter.all false
set_option maxRecDepth 100000
set_option maxHeartbeats 4000000
namespace BM
open PySem PySem.Spec PyProof.Rows L2
end BM
set_option Elab.async false
set_option linter.all false
set_option maxRecDepth 100000
set_option maxHeartbeats 4000000
namespace BM
open PySem PySem.Spec PyProof.Rows PyProof.Rows.G L2
end BM
set_option Elab.async false
set_option linter.all false
set_option maxRecDepth 100000
set_option maxHeartbeats 4000000
namespace BM
open PySem PySem.Spec PySem.SeqAt PyProof.Rows L2
end BM
set_option Elab.async false
set_option linter.all false
set_option maxRecDepth 100000
set_option maxHeartbeats 4000000
namespace PySem
open Sem (wp)
end PySem
namespace BM
open PySem PySem.Spec PyProof.Rows L2
end BM
set_option Elab.async false
set_option linter.all false
set_option maxRecDepth 100000
set_option maxHeartbeats 4000000
namespace BM
open PySem PySem.Spec PyProof.Rows PyProof.Rows.G L2
end BM
set_option Elab.async false
set_option linter.all false
set_option maxRecDepth 100000
set_option maxHeartbeats 4000000
namespace BM
open PySem PySem.Spec PyProof.Rows L2
end BM
set_option Elab.async false
set_option linter.all false
set_option maxRecDepth 100000
set_option maxHeartbeats 4000000
namespace BM
open PySem PySem.Spec PyProof.Rows L2
end BM
set_option Elab.async false
set_option linter.all false
set_option maxRecDepth 100000
set_option maxHeartbeats 4000000
namespace BM
open PySem PySem.Spec PyProof.Rows L2
end BM
set_option Elab.async false
set_option linter.all false
set_option maxRecDepth 100000
set_option maxHeartbeats 4000000
namespace BM
open PySem PySem.Spec PyProof.Rows L2
end BM
set_option Elab.async false
set_option linter.all false
set_option maxRecDepth 100000
set_option maxHeartbeats 4000000
namespace BM
open PySem PySem.Spec PyProof.Rows L2
variable [Tb]
/-- an exception: its class, its field, what the field holds -/
abbrev XD := Addr × Str × D
def PostX (K : PySem.W.Frag) (D : Ends) (W : L2.WX) (A : List Nat) (σ : L2.St) (T : List It) (env' : Env) : Fl ⊕ XD → Prop
  | .inl fl => Post K D A σ T env' fl
  | .inr x => ∀ σ' H' dd v, RS K H' env' σ' (.raw dd (.xd [(x.2.1, v)]) :: .rep (.d x.2.2) v :: T) → Kp A σ σ' → W (.ref x.1) (some dd) σ' H'
section
variable {K : PySem.W.Frag} {D : Ends} {W : L2.WX} {A B : List Nat} {σ σ1 : L2.St} {T : List It} {env' : Env} {r : Fl ⊕ XD}
theorem PostX.wide (h : PostX K D W B σ T env' r) (hs : ∀ i ∈ A, i ∈ B) : PostX K D W A σ T env' r := by
  cases r with
  | inr x => exact fun σ' H' dd v r k => h σ' H' dd v r (k.wide hs)
  | inl fl =>
    cases fl with
    | nx => exact fun σ' H' r k => h σ' H' r (k.wide hs)
    | bk => exact fun σ' H' r k => h σ' H' r (k.wide hs)
    | ct => exact fun σ' H' r k => h σ' H' r (k.wide hs)
    | rt o => exact fun v σ' H' r k => h v σ' H' r (k.wide hs)
end
end BM
set_option Elab.async false
set_option linter.all false
set_option maxRecDepth 100000
set_option maxHeartbeats 4000000
namespace BM
open PySem PySem.Spec PyProof.Rows L2
variable [Tb]
def EndX (K : PySem.W.Frag) (T : List It) (Q : VK) (E : L2.XK) : D ⊕ XD → Prop
  | .inl d => ∀ v H', St K H' (.rep (.d d) v :: T) → Q v H'
  | .inr x => ∀ dd v H', St K H' (.raw dd (.xd [(x.2.1, v)]) :: .rep (.d x.2.2) v :: T) → E (.ref x.1) (some dd) H'
structure FnX (cfg : Cfg) (k : Nat) (f : Addr) (fd : FuncData) (ps : List Str) (F : List D → Option (D ⊕ XD)) : Prop where
  run : ∀ (A : Around) (out : List PySem.Env) (s : Shared) (H : Hp) (args : Args) (us : List Value) (vs : List V) (ds : List D) (r : D ⊕ XD) (T : List It) (Q : VK) (E : L2.XK), Room k A → A.guards = some [] → Env0 cfg.P cfg.w cfg.K cfg.mg cfg.base A out s H →
    BindsTo s fd args (ps.zip us) → Vals vs us → F ds = some r → ds.length = vs.length → vs.length = ps.length → St cfg.K H (reps (leaf ds) vs ++ T) → EndX cfg.K T Q E r →
    codeAny (model cfg.P cfg.w) A (.call (.ref f) args) (CR (L2.CX cfg.P cfg.w) out cfg.P cfg.w H s Q E) s
end BM
set_option Elab.async false
set_option linter.all false
set_option maxRecDepth 100000
set_option maxHeartbeats 4000000
namespace BM
open PySem PySem.Spec PyProof.Rows L2
end BM
set_option Elab.async false
set_option linter.all false
set_option maxRecDepth 100000
set_option maxHeartbeats 4000000
namespace BM
open PySem PySem.Spec PyProof.Rows L2
variable [Tb]
def thruX (F : List D → Option (D ⊕ XD)) : List O → Option (O × List O) := fun os => match F (O.toDs os) with
  | some (.inl d) => some (.d d, leaf (O.toDs os))
  | _ => none
theorem keep_all : ∀ {io : List Bool} {os : List O} {vs : List V}, (∀ b ∈ io, b = false) → os.length = io.length → vs.length = io.length → envIts io os vs = reps (leaf (O.toDs os)) vs ∧ keepIts io os vs = reps (leaf (O.toDs os)) vs
  | [], os, vs, _, h1, h2 => by
    have e1 : os = [] := List.eq_nil_of_length_eq_zero h1
    have e2 : vs = [] := List.eq_nil_of_length_eq_zero h2
    subst e1 e2
    exact ⟨rfl, rfl⟩
  | b :: io, o :: os, v :: vs, h, h1, h2 => by
    have eb := h b List.mem_cons_self
    subst eb
    obtain ⟨e1, e2⟩ := keep_all (io := io) (os := os) (vs := vs) (fun b hb => h b (List.mem_cons_of_mem _ hb)) (by simpa using h1) (by simpa using h2)
    rw [O.toDs]
    constructor
    · show It.rep (.d o.toD) v :: envIts io os vs = It.rep (.d o.toD) v :: reps (leaf (O.toDs os)) vs
      rw [e1]
    · show [It.rep (.d o.toD) v] ++ keepIts io os vs = It.rep (.d o.toD) v :: reps (leaf (O.toDs os)) vs
      rw [e2]; rfl
  | _ :: _, [], _, _, h1, _ => by cases h1
  | _ :: _, _ :: _, [], _, _, h2 => by cases h2
theorem FnX.toG {cfg : Cfg} {k : Nat} {f : Addr} {fd : FuncData} {ps : List Str} {F : List D → Option (D ⊕ XD)} (h : FnX cfg k f fd ps F) : FnG cfg k f fd ps (spOf cfg.K ps.length (thruX F)) := by
  refine ⟨fun zs H Q E ⟨T, os, r, outs, _, _, h2, _⟩ => h2, fun A out s H args us zs Q E hr hg e0 hb rv ⟨T, os, r, outs, h1, h2, h3, h4, hS, q⟩ => ?_⟩
  unfold thruX at h1
  cases e : F (O.toDs os) with
  | none => rw [e] at h1; cases h1
  | some r0 =>
    rw [e] at h1
    cases r0 with
    | inr x => cases h1
    | inl d =>
      have e1 := Option.some.inj h1
      injection e1 with e1 e2
      subst e1 e2
      obtain ⟨k1, k2⟩ := keep_all (io := List.replicate ps.length false) (os := os) (vs := zs) (fun b hb => (List.mem_replicate.mp hb).2) (by rw [List.length_replicate]; exact h2) (by rw [List.length_replicate]; exact h3)
      have hS2 := in_its (io := List.replicate ps.length false) (by rw [List.length_replicate]; exact h2) (by rw [List.length_replicate]; exact h3) hS
      rw [k1, k2] at hS2
      have w := h.run A out s H args us zs (O.toDs os) (.inl d) (reps (leaf (O.toDs os)) zs ++ T) Q (fun _ _ _ => False) hr hg e0 hb rv e (by rw [toDs_len, h2, h3]) h3 hS2 (fun v H' hS' => q v H' hS')
      refine codeAny_mono w fun r' s' z => ?_
      match r', z with
      | .ok (.ret u), z => exact z
      | .ok .next, z => exact z
      | .ok .brk, z => exact z
      | .ok .cont, z => exact z
      | .error e, ⟨_, _, _, _, _, _, _, _, _, _, _, _, z⟩ => exact z.elim
end BM
set_option Elab.async false
set_option linter.all false
set_option maxRecDepth 100000
set_option maxHeartbeats 4000000
namespace BM
open PySem PySem.Spec PyProof.Rows L2
end BM
set_option Elab.async false
set_option linter.all false
set_option maxRecDepth 100000
set_option maxHeartbeats 4000000
namespace BM
open PySem PySem.Spec PyProof.Rows L2
end BM
set_option Elab.async false
set_option linter.all false
set_option maxRecDepth 100000
set_option maxHeartbeats 4000000
namespace BM
open PySem PySem.Spec PyProof.Rows L2
end BM
set_option Elab.async false
set_option linter.all false
set_option maxRecDepth 100000
set_option maxHeartbeats 4000000
namespace BM
open PySem PySem.Spec PyProof.Rows L2 PySem.MeetsSeq
end BM
set_option Elab.async false
set_option linter.all false
set_option maxRecDepth 100000
set_option maxHeartbeats 4000000
namespace BM
open PySem PySem.Spec PyProof.Rows L2
end BM
set_option Elab.async false
set_option linter.all false
set_option maxRecDepth 100000
set_option maxHeartbeats 4000000
namespace BM
open PySem PySem.Spec PyProof.Rows L2
end BM
set_option Elab.async false
set_option linter.all false
set_option maxRecDepth 100000
set_option maxHeartbeats 4000000
namespace BM
open PySem PySem.Spec PyProof.Rows L2 PySem.MeetsSeq
end BM
set_option Elab.async false
set_option linter.all false
set_option maxRecDepth 100000
set_option maxHeartbeats 4000000
namespace BM
open PySem PySem.Spec PyProof.Rows L2
end BM
set_option Elab.async false
set_option linter.all false
set_option maxRecDepth 100000
set_option maxHeartbeats 4000000
namespace BM
open PySem PySem.Spec PyProof.Rows L2
end BM
set_option Elab.async false
set_option linter.all false
set_option maxRecDepth 100000
set_option maxHeartbeats 4000000
namespace PySem
open Sem (wp)
end PySem
namespace BM
open PySem PySem.Spec PyProof.Rows L2
end BM
set_option Elab.async false
set_option linter.all false
set_option maxRecDepth 100000
set_option maxHeartbeats 4000000
namespace BM
open PySem PySem.Spec PyProof.Rows L2
variable [Tb]
/-- what a def promises that is called with any number of arguments by position -/
structure FnA (cfg : Cfg) (k : Nat) (f : Addr) (sp : Sp) : Prop where
  go : ∀ (A : Around) (out : List PySem.Env) (s : Shared) (H : Hp) (us : List Value) (zs : List V) (Q : VK) (E : XK), Room k A → A.guards = some [] → Env0 cfg.P cfg.w cfg.K cfg.mg cfg.base A out s H →
    Vals zs us → sp zs H Q E → codeAny (model cfg.P cfg.w) A (.call (.ref f) ⟨us, []⟩) (CR CX0 out cfg.P cfg.w H s Q E) s
/-- what is left over is a new tuple -/
def starSp (n : Nat) (sp : Sp) : Sp := fun vs H Q E => ∃ ws rest, vs = ws ++ rest ∧ ws.length = n ∧ rest.length ≤ sizeLine ∧ ∀ p, H p = none → sp (ws ++ [V.ref p]) (upd H p (.tup rest)) Q E
section
variable {cfg : Cfg} {k j : Nat} {f : Addr} {fd : FuncData} {ps : List Str} {sp sp' : Sp}
theorem FnA.weak (F : FnA cfg k f sp) (h : ∀ zs H Q E, sp' zs H Q E → sp zs H Q E) : FnA cfg k f sp' :=
  ⟨fun A out s H us zs Q E r g e v q => F.go A out s H us zs Q E r g e v (h zs H Q E q)⟩
theorem fnA_of {qual : Str} {st : Stmt} {x pv : Str} {N : List Str} (F : Fun cfg.K x qual st f fd) (S : FnScope N (ps ++ [pv]) (defScope st))
    (hbd : ∀ (kV doc pm : Value) (an : Option Addr) (cdv ct : Value) (us rest : List Value), us.length = ps.length → bindArgs (PySem.W.fnOf x qual (defArgs st) (defBody st) (defScope st) .none kV doc pm an cdv ct) ⟨us ++ rest, []⟩ = (newTuple rest >>= fun t => pure (ps.zip us ++ [(pv, t)])))
    (hl : ∀ zs H Q E, sp zs H Q E → zs.length = (ps ++ [pv]).length)
    (hb : ∀ (cdv : Value), fd.code = cdv → ∀ (A : Around) (out : List PySem.Env) (s : Shared) (H : Hp) (zs : List V) (Q : VK) (E : XK), Room k (A.deeper (envOfC qual (defScope st) s.heap.objs.size f cdv)) → A.guards = some [] → sp zs H Q E →
      ∃ t, PSs (cxOf CX0 cfg.P cfg.w cfg.K cfg.mg cfg.base N qual (defScope st) f cdv A out s H E).nox (defBody st) t ∧ t { nx := fun _ H' => Q .non H', rt := Q } (L2.start N zs) H) : FnA cfg (k + 1) f (starSp ps.length sp) := by
  obtain ⟨oc, od, kV, doc, pm, an, cdv, ct, osl, e1, lk, hcd⟩ := F.ex
  subst e1
  constructor
  intro A out s H us zs Q E hr hg e0 rv ⟨ws, rest, ev, hwl, hz, hq⟩
  subst ev
  obtain ⟨u1, u2, eu, r1, r2⟩ := StX.vals_split rv
  subst eu
  have there : cfg.K.In s.heap := e0.mod.kin.keeps fun b o z => (e0.bs b o z).1
  have hn : H s.heap.objs.size = Option.none := e0.hok.fresh (Nat.le_refl _)
  have hl1 : u1.length = ps.length := by rw [← r1.length]; exact hwl
  have hl2 : u2.length ≤ sizeLine := by rw [← r2.length]; exact hz
  refine codeAny_call_function hr.depth (there _ _ lk) rfl S.co S.gen rfl (PySem.W.codeRec_of there hcd) ?_
  rw [hbd kV doc pm an cdv ct u1 u2 hl1]
  refine wpAny_bind (wpAny_newTuple (wpAny_pure ?_) hl2)
  have new : ObjOk cfg.P cfg.w (upd H s.heap.objs.size (.tup rest)) (s.heap.push ({ cls := .type "tuple", data := .seq u2.toArray } : Obj)) s.heap.objs.size (.tup rest) := ⟨hz, u2, r2, ⟨_, Heap.get?_push_size _ rfl, rfl, _, rfl⟩⟩
  have un := StX.un_laid (fs := frs out) (s := s) (o := ({ cls := .type "tuple", data := .seq u2.toArray } : Obj)) (u := .tup rest) hn
  have e2 := StX.env0_laid e0 new
  have r3 : Vals (ws ++ [V.ref s.heap.objs.size]) (u1 ++ [Value.ref s.heap.objs.size]) := r1.append (.cons rfl .nil)
  have q2 := hq s.heap.objs.size hn
  have lim : (s.heap.push ({ cls := .type "tuple", data := .seq u2.toArray } : Obj)).NoLimit := e0.mod.nolimit.keeps fun b o z => (e2.bs b o z).1
  have ez : ps.zip u1 ++ [(pv, Value.ref s.heap.objs.size)] = (ps ++ [pv]).zip (u1 ++ [Value.ref s.heap.objs.size]) := by rw [List.zip_append hl1.symm]; rfl
  rw [ez]
  have kinds : ∀ y ∈ (ps ++ [pv]).zip (u1 ++ [Value.ref s.heap.objs.size]), (defScope st).names.lookup y.1 = some .local ∨ ((defScope st).names.lookup y.1 = some .cell ∧ ((cellsFrom ((s.heap.push ({ cls := .type "tuple", data := .seq u2.toArray } : Obj)).objs.size + 1) (defScope st).names []).lookup y.1).isSome = true) := by
    rintro ⟨n, v⟩ hy
    have hm := (List.of_mem_zip hy).1
    cases S.par n hm with
    | inl z => exact .inl z
    | inr z => exact .inr ⟨z, PySem.W.cellsFrom_some _ _ _ (.inl z)⟩
  refine wpAny_newFunctionEnv_cells (s := { s with heap := s.heap.push ({ cls := .type "tuple", data := .seq u2.toArray } : Obj) }) S.kind kinds ?_
  intro env hE s1 xs
  subst hE
  obtain ⟨t, ht, tq⟩ := hb cdv rfl A out { s with heap := s.heap.push ({ cls := .type "tuple", data := .seq u2.toArray } : Obj) } _ _ Q E (hr.deeper _) hg q2
  have I := inv_start (CX := CX0) (E := E) S hr.hd e2 (hl _ _ _ _ q2) r3 xs
  refine ⟨lim.keeps xs.toInCall.keep, codeAny_func (wpAny_mono (ht.nox.run [] s1 _ _ _ I tq) (fun fl s2 z => ?_) fun e s2 z => z)⟩
  match fl, z with
  | .ret u, ⟨v, σ', H', J, rv', q'⟩ => exact ⟨v, H', J.os, J.bare, un.trans J.base, J.hok, rv', q'⟩
  | .next, ⟨σ', H', J, q'⟩ => exact ⟨V.non, H', J.os, J.bare, un.trans J.base, J.hok, rfl, q'⟩
  | .brk, ⟨_, _, _, q'⟩ => exact q'.elim
  | .cont, ⟨_, _, _, q'⟩ => exact q'.elim
end
/-- the arguments behind the first n are data, and become one tuple -/
def starC (n : Nat) (c : List O → Option (O × List O)) (os : List O) : Option (O × List O) := match O.leafs (os.drop n) with
  | some ds => if ds.length ≤ sizeLine then (match c (os.take n ++ [.d (.tup ds)]) with
    | some (r, outs) => some (r, outs.take n ++ leaf ds)
    | none => none) else none
  | none => none
theorem star_sp {K : PySem.W.Frag} {n np : Nat} {c : List O → Option (O × List O)} (hn : n ≤ np) (hc : ∀ os r outs, c os = some (r, outs) → os.length = n + 1 → outs.length = n + 1) {vs : List V} {H : Hp} {Q : VK} {E : XK} (h : spOf K np (starC n c) vs H Q E) : starSp n (spOf K (n + 1) c) vs H Q E := by
  obtain ⟨T, os, r, outs, h1, h2, h3, h4, hS, q⟩ := h
  unfold starC at h1
  cases e1 : O.leafs (os.drop n) with
  | none => rw [e1] at h1; cases h1
  | some ds =>
    rw [e1] at h1
    simp only at h1
    split at h1
    case isFalse => cases h1
    rename_i hz
    have el := leafs_eq e1
    cases e2 : c (os.take n ++ [.d (.tup ds)]) with
    | none => rw [e2] at h1; cases h1
    | some p =>
      obtain ⟨r', outs'⟩ := p
      rw [e2] at h1
      have h1 := Option.some.inj h1
      injection h1 with g1 g2
      subst g1 g2
      have t1 : (os.take n).length = n := by rw [List.length_take]; omega
      have t2 : (vs.take n).length = n := by rw [List.length_take]; omega
      have dl : ds.length = (vs.drop n).length := by
        have z := congrArg List.length el
        rw [leaf_len, List.length_drop] at z
        rw [List.length_drop]; omega
      have ol := hc _ _ _ e2 (by rw [List.length_append, t1]; rfl)
      refine ⟨vs.take n, vs.drop n, (List.take_append_drop n vs).symm, t2, by rw [← dl]; exact hz, fun p hp => ?_⟩
      have hS1 : St K H (reps (leaf ds) (vs.drop n) ++ (reps (os.take n) (vs.take n) ++ T)) := by
        have e3 : reps os vs = reps (os.take n) (vs.take n) ++ reps (leaf ds) (vs.drop n) := by
          rw [← el, ← reps_append (t1.trans t2.symm), List.take_append_drop, List.take_append_drop]
        rw [e3, List.append_assoc] at hS
        refine hS.perm ?_
        rw [← List.append_assoc, ← List.append_assoc]
        exact List.Perm.append_right T List.perm_append_comm
      have hS2 := St.many (R' := reps (leaf ds) (vs.drop n)) (fun x hx => ⟨hx, reps_leaf_mem hx⟩) hS1
      have hS3 := St.newTup (p := p) dl hp hS2
      refine ⟨reps (leaf ds) (vs.drop n) ++ T, os.take n ++ [.d (.tup ds)], r', outs', e2, by rw [List.length_append, t1]; rfl, by rw [List.length_append, t2]; rfl, ol, ?_, fun v H' hS' => q v H' ?_⟩
      · rw [reps_append (t1.trans t2.symm)]
        refine hS3.perm ?_
        show (It.rep (.d (.tup ds)) (V.ref p) :: (reps (leaf ds) (vs.drop n) ++ (reps (os.take n) (vs.take n) ++ T))).Perm ((reps (os.take n) (vs.take n) ++ [It.rep (.d (.tup ds)) (V.ref p)]) ++ (reps (leaf ds) (vs.drop n) ++ T))
        rw [List.append_assoc]
        refine List.Perm.trans ?_ List.perm_middle.symm
        refine List.Perm.cons _ ?_
        show (reps (leaf ds) (vs.drop n) ++ (reps (os.take n) (vs.take n) ++ T)).Perm (reps (os.take n) (vs.take n) ++ (reps (leaf ds) (vs.drop n) ++ T))
        rw [← List.append_assoc, ← List.append_assoc]
        exact List.Perm.append_right T List.perm_append_comm
      · have ne : outs' ≠ [] := fun e => by rw [e] at ol; cases ol
        have o1 : (outs'.take n).length = n := by rw [List.length_take]; omega
        have e4 : outs' = outs'.take n ++ outs'.drop n := (List.take_append_drop n outs').symm
        have e5 : reps outs' (vs.take n ++ [V.ref p]) = reps (outs'.take n) (vs.take n) ++ reps (outs'.drop n) [V.ref p] := by
          rw [← reps_append (o1.trans t2.symm), List.take_append_drop]
        rw [e5] at hS'
        have e6 : reps (outs'.take n ++ leaf ds) vs = reps (outs'.take n) (vs.take n) ++ reps (leaf ds) (vs.drop n) := by
          rw [← reps_append (o1.trans t2.symm), List.take_append_drop]
        rw [e6]
        refine hS'.sub ?_
        show (It.rep r' v :: ((reps (outs'.take n) (vs.take n) ++ reps (leaf ds) (vs.drop n)) ++ T)).Sublist (It.rep r' v :: ((reps (outs'.take n) (vs.take n) ++ reps (outs'.drop n) [V.ref p]) ++ (reps (leaf ds) (vs.drop n) ++ T)))
        rw [List.append_assoc, List.append_assoc]
        exact List.Sublist.cons_cons _ (List.Sublist.append_left (List.sublist_append_right _ _) _)
theorem starC_len {n np : Nat} {c : List O → Option (O × List O)} (hn : n ≤ np) (hc : ∀ os r outs, c os = some (r, outs) → os.length = n + 1 → outs.length = n + 1) : ∀ os r outs, starC n c os = some (r, outs) → os.length = np → outs.length = np := by
  intro os r outs h hl
  unfold starC at h
  cases e1 : O.leafs (os.drop n) with
  | none => rw [e1] at h; cases h
  | some ds =>
    rw [e1] at h
    simp only at h
    split at h
    case isFalse => cases h
    cases e2 : c (os.take n ++ [.d (.tup ds)]) with
    | none => rw [e2] at h; cases h
    | some p =>
      obtain ⟨r', outs'⟩ := p
      rw [e2] at h
      have h := Option.some.inj h
      injection h with g1 g2
      subst g1 g2
      have z := congrArg List.length (leafs_eq e1)
      rw [leaf_len, List.length_drop] at z
      have ol := hc _ _ _ e2 (by rw [List.length_append, List.length_take]; show min n os.length + 1 = n + 1; omega)
      rw [List.length_append, List.length_take, leaf_len]
      omega
/-- a def by its body: its last parameter is the tuple -/
theorem fn_okA {cfg : Cfg} {name qual : Str} {st : Stmt} {f : Addr} {fd : FuncData} {N ps : List Str} {pv : Str} {k n : Nat} {io : List Bool} {m : M Fl} {A : List Nat} (F : Fun cfg.K name qual st f fd) (S : FnScope N (ps ++ [pv]) (defScope st))
    (hbd : ∀ (kV doc pm : Value) (an : Option Addr) (cdv ct : Value) (us rest : List Value), us.length = ps.length → bindArgs (PySem.W.fnOf name qual (defArgs st) (defBody st) (defScope st) .none kV doc pm an cdv ct) ⟨us ++ rest, []⟩ = (newTuple rest >>= fun t => pure (ps.zip us ++ [(pv, t)])))
    (hb : Sb ⟨cfg, N, (defScope st).names, fun _ => true, k, none⟩ (defBody st) m A) (hio : io.length = (ps ++ [pv]).length := by decide) (hN : N.length = io.length + n := by decide) (hA : noIo A io = true := by decide) :
    FnA cfg (k + 1) f (starSp ps.length (spOf cfg.K io.length (callM io n m))) := by
  refine fnA_of F S hbd (fun vs H Q E h => ?_) (fun cdv hcd A' outer s H vs Q E hr hgd h => ?_)
  · obtain ⟨T, os, r, outs, _, _, h2, _⟩ := h
    rw [h2, hio]
  · obtain ⟨T, os, r, outs, h1, h2, h3, h4, hS, q⟩ := h
    refine ⟨_, pss_best _ _, ?_⟩
    have ok : Gm.Ok ⟨cfg, N, (defScope st).names, fun _ => true, k, none⟩ (cxOf CX0 cfg.P cfg.w cfg.K cfg.mg cfg.base N qual (defScope st) f cdv A' outer s H E).nox :=
      ⟨rfl, rfl, rfl, rfl, rfl, rfl, rfl, S.kind, rfl, rfl, hr, rfl, hgd, fun p e => by cases e⟩
    unfold callM at h1
    rw [if_pos h2] at h1
    have hst : L2.start N vs = vs.map some ++ List.replicate n none := by
      unfold L2.start
      rw [hN, h3, Nat.add_sub_cancel_left]
    rw [hst]
    have r0 : RS cfg.K H (inE io os ++ List.replicate n none) (vs.map some ++ List.replicate n none) (keepIts io os vs ++ T) :=
      ⟨_, env_start h2 h3, (in_its h2 h3 hS).perm List.perm_append_comm⟩
    have fin : ∀ {o : O} {s' : Env} {v : V} {σ' : L2.St} {H' : Hp} {outs' : List O}, outsM io os 0 s' = some outs' → Kp A (vs.map some ++ List.replicate n none) σ' → RS cfg.K H' s' σ' (.rep o v :: (keepIts io os vs ++ T)) → St cfg.K H' (.rep o v :: (reps outs' vs ++ T)) := by
      intro o s' v σ' H' outs' e kp r
      obtain ⟨s2, L, hE, hS'⟩ := out_its (Y := [.rep o v]) (j := 0) (σ := σ') e h3 (fun k hk => by
        rw [Nat.zero_add]
        have hkA : k ∉ A := fun hm => by
          unfold noIo at hA
          have z := List.all_eq_true.mp hA k hm
          rw [hk] at z; cases z
        rw [kp.2 k hkA]
        have hlt : k < vs.length := by
          rw [h3]
          exact (List.getElem?_eq_some_iff.mp hk).1
        rw [List.getElem?_append_left (by simpa using hlt), List.getElem?_map]) r
      refine hS'.sub ?_
      show (It.rep o v :: (reps outs' vs ++ T)).Sublist ((It.rep o v :: (reps outs' vs ++ T)) ++ L)
      exact List.sublist_append_left _ _
    cases q1 : m (inE io os ++ List.replicate n none) with
    | none => rw [q1] at h1; cases h1
    | some p =>
      obtain ⟨fl, s'⟩ := p
      rw [q1] at h1
      refine hb.run _ ok _ fl s' q1 _ H _ r0 _ ?_
      cases fl with
      | nx =>
        simp only at h1
        cases q2 : outsM io os 0 s' with
        | none => simp only [q2] at h1; cases h1
        | some outs' =>
          simp only [q2] at h1
          have e1 := Option.some.inj h1
          injection e1 with e1 e2
          subst e1 e2
          exact fun σ' H' r' kp => q .non H' (fin q2 kp (r'.lift fun L h => h.flat rfl))
      | bk => cases h1
      | ct => cases h1
      | rt o =>
        simp only at h1
        cases q2 : outsM io os 0 s' with
        | none => simp only [q2] at h1; cases h1
        | some outs' =>
          simp only [q2] at h1
          have e1 := Option.some.inj h1
          injection e1 with e1 e2
          subst e1 e2
          exact fun v σ' H' r' kp => q v H' (fin q2 kp r')
theorem runA {X : Cx} {cfg : Cfg} {k : Nat} {f : Addr} {sp : Sp} (a : At X cfg) {pins : List (Addr × Obj)} {σ : L2.St} {H : Hp} {s : Shared} {Q : VK} {us : List Value} {zs : List V} (F : FnA cfg k f sp) (hr : Room k X.A) (I : Inv X pins σ H s) (r : Vals zs us) (h : sp zs H Q E0) :
    wpAny (model X.prog X.w) X.A (call (.ref f) us) (EP X pins σ Q) X.xe s := by
  have e0 : Env0 cfg.P cfg.w cfg.K cfg.mg cfg.base X.A X.stack s H := by
    have z := I.env0
    rw [a.hP, a.hw, a.hK, a.hmg, a.hbase] at z
    exact z
  have w := F.go X.A X.stack s H us zs Q E0 hr a.gd e0 r h
  rw [← a.hP, ← a.hw] at w
  refine wpAny_call (codeAny_mono w fun r' s' z => ?_)
  have y := end_call I z
  cases r' with
  | error e => exact y
  | ok fl =>
    cases fl with
    | ret u => exact y
    | next => exact y.elim
    | brk => exact y.elim
    | cont => exact y.elim
section
variable {X : Cx} {cfg : Cfg} {k : Nat} {f C : Addr} {sp : Sp} {x m : Str} {p pos apos : Pos} {e o : Expr} {es : List Expr} {ta : TE} {t : TA}
theorem pe_methA {pl : Sem Bool} (a : At X cfg) (he : PE X o ta) (c : Cls X.K C) (hm : Meth X.K C m f) (F : FnA cfg k f sp) (hr : Room k X.A) (ha : PA X (e :: es) t)
    (hst : starEach (e :: es) X.env = (false, eval e X.env) :: starEach es X.env) (hpl : (backTo pos (starEach es X.env)).any (·.1) = false)
    (ht : eval (.Call (.Attribute o m apos) (e :: es) [] pos) X.env = (do
      let ov ← eval o X.env
      standAt apos.atName
      let (f, first) ← holding [ov] (getMethod ov m pl)
      callWith pos f first (backTo pos (starEach (e :: es) X.env)) (backToKw pos (keywordEach [] X.env)))) :
    PE X (.Call (.Attribute o m apos) (e :: es) [] pos) (tMeth C m sp [] E0 ta t) := by
  refine ⟨fun pins s σ H Q I h => ?_⟩
  refine PySem.W.methodCall_KW (pl := pl) (thn (he.run pins s σ H _ I h) fun u s1 ⟨x, H1, I1, rx, ad, dx, fs, ex, ea, l, q⟩ => ?_) ht
  subst ex
  obtain rfl : u = Value.ref ad := rx
  refine getmeth_ok I1 ea c hm l ?_
  refine PySem.W.callWith_K (first := [.ref ad]) (h₀ := X.base) I1.ok.mod.kin hm.kp (thn (ha.run pos pins s1 σ H1 _ I1 q) fun us s2 ⟨vs, H2, I2, r, q2⟩ => ⟨I2.kIn, ?_⟩) hst hpl
  have q2 : sp (V.ref ad :: (vs ++ [])) H2 Q E0 := q2
  rw [List.append_nil] at q2
  exact runA a (us := .ref ad :: us) (zs := .ref ad :: vs) F hr I2 (.cons rfl r) q2
end
/-- the def m of the class C, at fa: n parameters, and a tuple of what is left -/
structure FnMA (cfg : Cfg) (k : Nat) (C : Addr) (m : Str) (fa : Addr) (n : Nat) (f : List O → Option (O × List O)) : Prop where
  cl : Cls cfg.K C
  mt : Meth cfg.K C m fa
  ok : FnA cfg k fa (starSp n (spOf cfg.K (n + 1) f))
  len : ∀ os r outs, f os = some (r, outs) → os.length = n + 1 → outs.length = n + 1
section
variable {Γ : Gm} {e o : Expr} {es : List Expr} {x f : Str} {p pos pos' apos : Pos} {i k np n : Nat} {C fa : Addr} {m mo : M O} {ms : List (M Ar)} {fn : List O → Option (O × List O)}
theorem sd_methA (pl : PySem.Env → Sem Bool) (F : FnMA Γ.cfg k C f fa n fn) (ho : Sd Γ o mo) (hn : NoStars (e :: es)) (ha : Sars Γ (e :: es) ms) (hl : (e :: es).length + 1 = np := by rfl) (hn1 : n ≤ np := by exact Nat.le_of_ble_eq_true rfl) (hk : k ≤ Γ.n := by exact Nat.le_of_ble_eq_true rfl)
    (ht : ∀ env : PySem.Env, eval (.Call (.Attribute o f apos) (e :: es) [] pos) env = (do
      let ov ← eval o env
      standAt apos.atName
      let (f, first) ← holding [ov] (getMethod ov f (pl env))
      callWith pos f first (backTo pos (starEach (e :: es) env)) (backToKw pos (keywordEach [] env))) := by intro _; rfl) :
    Sd Γ (.Call (.Attribute o f apos) (e :: es) [] pos) (mCall (starC n fn) (aval (mObj C f mo) :: ms)) := ⟨fun X ok env o' env' hm σ H T hr Q q => by
  obtain ⟨ars, s1, os, s2, o', outs, s3, h1, h2, h3, h4, e1⟩ := mCall_some hm
  injection e1 with e1 e2
  subst e1 e2
  obtain ⟨a0, s0, l, g1, g2, g3⟩ := mars_cons h1
  subst g3
  obtain ⟨o0, g4, g5⟩ := aval_some g1
  subst g5
  obtain ⟨o1, ns, xs, g6, g7, g8, g9⟩ := mObj_some g4
  have g9 : o0 = .d (.obj C ns xs) := g9
  subst g9
  refine ⟨_, pe_methA (pl := pl X.env) ok.at_ (pe_best X o) (by rw [ok.hK]; exact F.cl) (by rw [ok.hK]; exact F.mt) F.ok (ok.room.mono hk) (pa_of hn) (ns_head hn _) (backTo_plain (ns_tail hn)) (ht X.env), ?_⟩
  refine ho.run X ok env o1 s0 g6 σ H T hr _ fun v H1 r1 => ?_
  have r1 := r1.freeze
  rw [g7] at r1
  obtain ⟨a, dx, vs0, e1, e2⟩ := sd_obj_its r1
  subst e1
  refine ⟨a, dx, _, rfl, e2, lookup_no g8, ?_⟩
  have w := ha.run X ok s0 l s1 g2 σ H1 _ r1 (fun vs H' => RS Γ.cfg.K H' s1 σ ((List.zipWith Ar.its l vs).flatten ++ (.rep (.d (.obj C ns xs)) (.ref a) :: T)) ∧ l.length = vs.length ∧ (∀ p ∈ l.zip vs, p.1.at σ p.2)) fun vs H' r l a => ⟨r, l, a⟩
  refine wl_len.wl_mono (wl_len w) fun vs H' ⟨hv, r, l1, a1⟩ => ?_
  rw [List.append_nil]
  have r2 : RS Γ.cfg.K H' s1 σ ((List.zipWith Ar.its (.val (.d (.obj C ns xs)) :: l) (.ref a :: vs)).flatten ++ T) := r.perm (by
    show List.Perm _ (.rep (.d (.obj C ns xs)) (.ref a) :: ((List.zipWith Ar.its l vs).flatten ++ T))
    exact List.perm_middle)
  have at2 : ∀ p ∈ (Ar.val (.d (.obj C ns xs)) :: l).zip (V.ref a :: vs), p.1.at σ p.2 := fun p hp => by
    rcases List.mem_cons.mp hp with rfl | hp
    · trivial
    · exact a1 p hp
  have l2 : (Ar.val (.d (.obj C ns xs)) :: l).length = (V.ref a :: vs).length := by simp [l1]
  have hos : os.length = (V.ref a :: vs).length := (take_rs h2 l2 at2 r2).1
  have hnp : (V.ref a :: vs).length = np := by rw [List.length_cons, hv]; exact hl
  exact star_sp hn1 F.len (call_read (cfg := Γ.cfg) h2 h3 h4 l2 at2 r2 hnp (starC_len hn1 F.len _ _ _ h3 (hos.trans hnp)) q)⟩
end
/-- how the word runs -/
theorem e_star {n : Nat} {c : List O → Option (O × List O)} {os : List O} {ds : List D} {r : O} {outs : List O} (h1 : O.leafs (os.drop n) = some ds) (hz : ds.length ≤ sizeLine) (h2 : c (os.take n ++ [.d (.tup ds)]) = some (r, outs)) : starC n c os = some (r, outs.take n ++ leaf ds) := by
  unfold starC
  rw [h1]
  simp only [if_pos hz, h2]
end BM
set_option Elab.async false
set_option linter.all false
set_option maxRecDepth 100000
set_option maxHeartbeats 4000000
namespace BM
open PySem PySem.Spec PyProof.Rows L2
end BM
set_option Elab.async false
set_option linter.all false
set_option maxRecDepth 100000
set_option maxHeartbeats 4000000
namespace BM
open PySem PySem.Spec PyProof.Rows L2
end BM
set_option Elab.async false
set_option linter.all false
set_option maxRecDepth 100000
set_option maxHeartbeats 4000000
namespace BM
open PySem PySem.Spec PyProof.Rows L2 PySem.MeetsSeq
end BM
set_option Elab.async false
set_option linter.all false
set_option maxRecDepth 100000
set_option maxHeartbeats 4000000
namespace BM
open PySem PySem.Spec PyProof.Rows L2
end BM
set_option Elab.async false
set_option linter.all false
set_option maxRecDepth 100000
set_option maxHeartbeats 4000000
namespace BM
open PySem PySem.Spec PyProof.Rows L2
end BM
set_option Elab.async false
set_option linter.all false
set_option maxRecDepth 100000
set_option maxHeartbeats 4000000
namespace BM
open PySem PySem.Spec PyProof.Rows L2
variable [Tb]
section
variable {X : Cx} {cfg : Cfg} {k : Nat} {f C : Addr} {sp : Sp} {x m : Str} {p pos apos : Pos} {e o : Expr} {es : List Expr} {ta : TE} {t : TA}
theorem pe_methA0 {pl : Sem Bool} (a : At X cfg) (he : PE X o ta) (c : Cls X.K C) (hm : Meth X.K C m f) (F : FnA cfg k f sp) (hr : Room k X.A)
    (ht : eval (.Call (.Attribute o m apos) [] [] pos) X.env = (do
      let ov ← eval o X.env
      standAt apos.atName
      let (f, first) ← holding [ov] (getMethod ov m pl)
      callWith pos f first (backTo pos (starEach [] X.env)) (backToKw pos (keywordEach [] X.env)))) :
    PE X (.Call (.Attribute o m apos) [] [] pos) (tMeth C m sp [] E0 ta tNil) := by
  refine ⟨fun pins s σ H Q I h => ?_⟩
  refine PySem.W.methodCall_KW (pl := pl) (thn (he.run pins s σ H _ I h) fun u s1 ⟨x, H1, I1, rx, ad, dx, fs, ex, ea, l, q⟩ => ?_) ht
  subst ex
  obtain rfl : u = Value.ref ad := rx
  refine getmeth_ok I1 ea c hm l ?_
  exact PySem.W.callWith_K0 (first := [.ref ad]) I1.kIn hm.kp (runA a (us := [.ref ad]) (zs := [.ref ad]) F hr I1 (.cons rfl .nil) q)
end
section
variable {Γ : Gm} {e o : Expr} {es : List Expr} {x f : Str} {p pos pos' apos : Pos} {i k np n : Nat} {C fa : Addr} {m mo : M O} {ms : List (M Ar)} {fn : List O → Option (O × List O)}
theorem sd_methA0 (pl : PySem.Env → Sem Bool) (F : FnMA Γ.cfg k C f fa n fn) (ho : Sd Γ o mo) (hn1 : n ≤ 1 := by exact Nat.le_of_ble_eq_true rfl) (hk : k ≤ Γ.n := by exact Nat.le_of_ble_eq_true rfl)
    (ht : ∀ env : PySem.Env, eval (.Call (.Attribute o f apos) [] [] pos) env = (do
      let ov ← eval o env
      standAt apos.atName
      let (f, first) ← holding [ov] (getMethod ov f (pl env))
      callWith pos f first (backTo pos (starEach [] env)) (backToKw pos (keywordEach [] env))) := by intro _; rfl) :
    Sd Γ (.Call (.Attribute o f apos) [] [] pos) (mCall (starC n fn) [aval (mObj C f mo)]) := ⟨fun X ok env o' env' hm σ H T hr Q q => by
  obtain ⟨ars, s1, os, s2, o', outs, s3, h1, h2, h3, h4, e1⟩ := mCall_some hm
  injection e1 with e1 e2
  subst e1 e2
  obtain ⟨a0, s0, l, g1, g2, g3⟩ := mars_cons h1
  subst g3
  cases g2
  obtain ⟨o0, g4, g5⟩ := aval_some g1
  subst g5
  obtain ⟨o1, ns, xs, g6, g7, g8, g9⟩ := mObj_some g4
  have g9 : o0 = .d (.obj C ns xs) := g9
  subst g9
  refine ⟨_, pe_methA0 (pl := pl X.env) ok.at_ (pe_best X o) (by rw [ok.hK]; exact F.cl) (by rw [ok.hK]; exact F.mt) F.ok (ok.room.mono hk) (ht X.env), ?_⟩
  refine ho.run X ok env o1 _ g6 σ H T hr _ fun v H1 r1 => ?_
  have r1 := r1.freeze
  rw [g7] at r1
  obtain ⟨a, dx, vs0, e1, e2⟩ := sd_obj_its r1
  subst e1
  refine ⟨a, dx, _, rfl, e2, lookup_no g8, ?_⟩
  show starSp n (spOf Γ.cfg.K (n + 1) fn) ([V.ref a]) H1 Q E0
  have at2 : ∀ p ∈ ([Ar.val (.d (.obj C ns xs))]).zip [V.ref a], p.1.at σ p.2 := fun p hp => by
    rcases List.mem_cons.mp hp with rfl | hp
    · trivial
    · cases hp
  have l2 : [Ar.val (.d (.obj C ns xs))].length = [V.ref a].length := rfl
  have r2 : RS Γ.cfg.K H1 s1 σ ((List.zipWith Ar.its [Ar.val (.d (.obj C ns xs))] [V.ref a]).flatten ++ T) := r1
  have hos : os.length = [V.ref a].length := (take_rs h2 l2 at2 r2).1
  exact star_sp (np := 1) hn1 F.len (call_read (cfg := Γ.cfg) h2 h3 h4 l2 at2 r2 rfl (starC_len hn1 F.len _ _ _ h3 hos) q)⟩
end
end BM
set_option Elab.async false
set_option linter.all false
set_option maxRecDepth 100000
set_option maxHeartbeats 4000000
namespace BM
open PySem PySem.Spec PyProof.Rows L2
variable [Tb]
def mEqO (C : Addr) (fn : List O → Option (O × List O)) (ma mb : M O) : M Bool := fun s => match ma s with
  | some (o1, s1) => (match o1.toD with
    | .obj C1 ns xs => (match mb s1 with
      | some (o2, s2) => (match o2.toD with
        | .obj C2 ms ys => if C1 = C ∧ C2 = C then (match fn [.d (.obj C1 ns xs), .d (.obj C2 ms ys)] with
          | some (.d (.bl b), _) => some (b, s2)
          | _ => none) else none
        | _ => none)
      | none => none)
    | _ => none)
  | none => none
def mEqV (C : Addr) (fn : List O → Option (O × List O)) (ma mb : M O) : M O := fun s => match mEqO C fn ma mb s with
  | some (b, s1) => some (.d (.bl b), s1)
  | none => none
theorem mEqO_some {C : Addr} {fn : List O → Option (O × List O)} {ma mb : M O} {s s' : Env} {b : Bool} (h : mEqO C fn ma mb s = some (b, s')) : ∃ o1 s1 ns xs o2 ms ys outs, ma s = some (o1, s1) ∧ o1.toD = .obj C ns xs ∧ mb s1 = some (o2, s') ∧ o2.toD = .obj C ms ys ∧ fn [.d (.obj C ns xs), .d (.obj C ms ys)] = some (.d (.bl b), outs) := by
  unfold mEqO at h
  split at h
  case h_2 => cases h
  rename_i o1 s1 h1
  split at h
  case h_2 => cases h
  rename_i C1 ns xs h2
  split at h
  case h_2 => cases h
  rename_i o2 s2 h3
  split at h
  case h_2 => cases h
  rename_i C2 ms ys h4
  by_cases hc : C1 = C ∧ C2 = C
  · rw [if_pos hc] at h
    obtain ⟨rfl, rfl⟩ := hc
    split at h
    case h_2 => cases h
    rename_i b' outs h5
    have e1 := Option.some.inj h
    injection e1 with e1 e2
    subst e1 e2
    exact ⟨o1, s1, ns, xs, o2, ms, ys, outs, h1, h2, h3, h4, h5⟩
  · rw [if_neg hc] at h; cases h
theorem e_eqO {C : Addr} {fn : List O → Option (O × List O)} {ma mb : M O} {s s1 s2 : Env} {o1 o2 : O} {ns ms : List Str} {xs ys : List D} {b : Bool} {outs : List O} (h1 : ma s = some (o1, s1)) (h2 : o1.toD = .obj C ns xs) (h3 : mb s1 = some (o2, s2)) (h4 : o2.toD = .obj C ms ys) (h5 : fn [.d (.obj C ns xs), .d (.obj C ms ys)] = some (.d (.bl b), outs)) : mEqO C fn ma mb s = some (b, s2) := by
  unfold mEqO
  simp only [h1, h2, h3, h4, and_self, if_true, h5]
theorem e_eqV {C : Addr} {fn : List O → Option (O × List O)} {ma mb : M O} {s s1 : Env} {b : Bool} (h : mEqO C fn ma mb s = some (b, s1)) : mEqV C fn ma mb s = some (.d (.bl b), s1) := by
  unfold mEqV; rw [h]
section
variable {Γ : Gm} {k : Nat} {C fa : Addr} {fd : FuncData} {ps : List Str} {fn : List O → Option (O × List O)}
def rEqO (K : PySem.W.Frag) (C : Addr) (fn : List O → Option (O × List O)) : R2 := fun x y H Q => ∃ a b dx fs dy gs, x = .ref a ∧ y = .ref b ∧ H a = some (.ins C dx fs) ∧ H b = some (.ins C dy gs) ∧ spOf K 2 fn [.ref a, .ref b] H (fun v H' => (∃ k, v = .bl k) ∧ Q v H') E0
theorem op_eqO {X : Cx} (ok : Γ.Ok X) (F : FnM Γ.cfg k C ("__eq__" : Str) fa fd ps 2 fn) (hb : Binds Γ.cfg.K fd ps []) (hk : k ≤ Γ.n) : OpR X (compareOp .Eq) (rEqO Γ.cfg.K C fn) := by
  intro pins s σ H x y v u Q I rx ry d
  obtain ⟨a, b, dx, fs, dy, gs, rfl, rfl, ha, hb', hr⟩ := d
  cases rx
  cases ry
  obtain ⟨mA, J, _⟩ := ins_get I.hok ha
  obtain ⟨mB, J', _⟩ := ins_get I.hok hb'
  obtain ⟨od, J, _⟩ := J.look
  obtain ⟨od', J', _⟩ := J'.look
  obtain ⟨m, hF⟩ := I.fr
  have hu : X.A.units < cLine := by have := ok.room.units; omega
  show wpAny (model X.prog X.w) X.A (richCompare .Eq (.ref a) (.ref b)) (EP X pins σ Q) X.xe s
  refine PySem.W.cmp_K (op := .Eq) (tb := .ref C) hu hF I.ok.mod.kin J J'.type (by simp [PySem.W.notFirst]) (by rw [ok.hK]; exact F.mt.at_) (by rw [ok.hK]; exact F.mt.fn) ?_
  refine wpAny_mono (runG' ok.at_ (us := [.ref a, .ref b]) (zs := [.ref a, .ref b]) F.ok (ok.room.mono hk) I hb (.cons rfl (.cons rfl .nil)) hr) (fun r s' z => ?_) fun _ _ e => e
  obtain ⟨x, H', I', rx, ⟨b, rfl⟩, q⟩ := z
  cases rx
  exact ⟨.bl b, H', I', rfl, q⟩
theorem wo_eqO {X : Cx} (ok : Γ.Ok X) (F : FnM Γ.cfg k C ("__eq__" : Str) fa fd ps 2 fn) (hb : Binds Γ.cfg.K fd ps []) (hk : k ≤ Γ.n) {H : Hp} {v w : V} {ns ms : List Str} {xs ys : List D} {b : Bool} {outs : List O} {L : List It}
    (hS : St Γ.cfg.K H (.rep (.d (.obj C ns xs)) v :: .rep (.d (.obj C ms ys)) w :: L)) (hf : fn [.d (.obj C ns xs), .d (.obj C ms ys)] = some (.d (.bl b), outs)) (Q : VK) (q : ∀ H', St Γ.cfg.K H' L → Q (.bl b) H') : WO X (compareOp .Eq) v w H Q := by
  obtain ⟨a1, d1, vs1, rfl, h1, _⟩ := St.read_obj hS
  obtain ⟨a2, d2, vs2, rfl, h2, _⟩ := St.read_obj (hS.perm (List.Perm.swap _ _ _))
  have lo := F.len _ _ _ hf rfl
  refine ⟨_, op_eqO ok F hb hk, a1, a2, d1, _, d2, _, rfl, rfl, h1, h2, L, _, _, _, hf, rfl, rfl, lo, hS, fun x H' hS' => ?_⟩
  have e : x = .bl b := hS'.blv
  subst e
  refine ⟨⟨b, rfl⟩, q H' ?_⟩
  exact hS'.sub ((List.sublist_append_right _ _).trans (List.sublist_cons_self _ _))
variable {a b : Expr} {pos : Pos} {ma mb : M O}
theorem sd_eqV (F : FnM Γ.cfg k C ("__eq__" : Str) fa fd ps 2 fn) (hb : Binds Γ.cfg.K fd ps []) (ha : Sd Γ a ma) (hb2 : Sd Γ b mb) (hk : k ≤ Γ.n := by exact Nat.le_of_ble_eq_true rfl) (hm : behindInMarks .Eq b = false := by first | exact nomark _ | rfl) : Sd Γ (.Compare a [.Eq] [b] pos) (mEqV C fn ma mb) := ⟨fun X ok env r env' hm' σ H T hr Q q => by
  unfold mEqV at hm'
  split at hm'
  case h_2 => cases hm'
  rename_i bb s9 hm2
  have e1 := Option.some.inj hm'
  injection e1 with e1 e2
  subst e1 e2
  obtain ⟨o1, s1, ns, xs, o2, ms, ys, outs, h1, h2, h3, h4, h5⟩ := mEqO_some hm2
  refine ⟨tOp (WO X (compareOp .Eq)) (WE X a) (WE X b), pe_cmpR (op_best X _) (pe_best X a) (pe_best X b) hm, ?_⟩
  refine ha.run X ok env o1 s1 h1 σ H T hr _ fun v H1 r1 => ?_
  have r1 := r1.freeze
  rw [h2] at r1
  refine hb2.run X ok s1 o2 s9 h3 σ H1 _ r1 _ fun w H2 r2 => ?_
  have r2 := r2.freeze
  rw [h4] at r2
  obtain ⟨L, hE, hS⟩ := r2
  refine wo_eqO ok F hb hk (L := T ++ L) (hS.perm (List.Perm.swap _ _ _)) h5 _ fun H' hS' => q _ H' ⟨L, hE, hS'.flat rfl⟩⟩
end
end BM
set_option Elab.async false
set_option linter.all false
set_option maxRecDepth 100000
set_option maxHeartbeats 4000000
namespace BM
open PySem PySem.Spec PyProof.Rows L2 C8
variable [Tb]
def mIsO (C : Addr) (m : M O) : M O := fun s => match m s with
  | some (o, s') => (match o.toD with
    | .obj C1 _ _ => if C1 = C then some (.d (.bl true), s') else none
    | _ => none)
  | none => none
theorem e_isO {C : Addr} {m : M O} {s s1 : Env} {o : O} {ns : List Str} {xs : List D} (h : m s = some (o, s1)) (h2 : o.toD = .obj C ns xs) : mIsO C m s = some (.d (.bl true), s1) := by
  unfold mIsO
  simp only [h, h2, if_true]
section
variable {Γ : Gm} {e : Expr} {p1 p2 pos : Pos} {m : M O} {c : Str} {C : Addr}
theorem sd_isO (h : Sd Γ e m) (hg1 : Γ.glo "isinstance" = true) (hm1 : Γ.cfg.mg "isinstance" = none) (hg2 : Γ.glo c = true) (hm2 : Γ.cfg.mg c = some (.ref C)) (ic : InsC Γ.cfg.K C) (hd : (c == ("__debug__" : Str)) = false := by decide)
    (ne : ∀ env : PySem.Env, starEach [e, .Name c p2] env = (false, eval e env) :: starEach [.Name c p2] env := by intro _; rfl) :
    Sd Γ (.Call (.Name "isinstance" p1) [e, .Name c p2] [] pos) (mIsO C m) := ⟨fun X ok env o env' hm' σ H T hr Q q => by
  unfold mIsO at hm'
  split at hm'
  case h_2 => cases hm'
  rename_i o1 s1 h1
  split at hm'
  case h_2 => cases hm'
  rename_i C1 ns xs h2
  by_cases hc : C1 = C
  · subst hc
    rw [if_pos rfl] at hm'
    have e1 := Option.some.inj hm'
    injection e1 with e1 e2
    subst e1 e2
    refine ⟨_, pe_callB (call_isC (C := C1) (by rw [ok.hK]; exact ic)) (ok.glo hg1) (by rw [ok.hmg]; exact hm1) PyProof.Rows.boot_isinstance (pa_cons (pe_best X e) (pa_cons (pe_gc (v := .ref C1) (ok.glo hg2) ⟨.ref C1, by rw [ok.hmg]; exact hm2, rfl⟩ hd) pa_nil) (ne X.env)) (by decide) (by decide) (ne X.env), ?_⟩
    refine h.run X ok env o1 s1 h1 σ H T hr _ fun v H1 r => ?_
    have r := r.freeze
    rw [h2] at r
    obtain ⟨L, hE, hS⟩ := id r
    obtain ⟨a, dx, vs, rfl, g2, _⟩ := St.read_obj (L := T ++ L) hS
    exact ⟨a, dx, _, rfl, g2, q _ H1 ⟨L, hE, hS.drop.flat rfl⟩⟩
  · rw [if_neg hc] at hm'; cases hm'⟩
end
end BM
set_option Elab.async false
set_option linter.all false
set_option maxRecDepth 100000
set_option maxHeartbeats 4000000
namespace BM
open PySem PySem.Spec PyProof.Rows L2
variable [Tb]
section
variable {X : Cx} {cfg : Cfg} {k : Nat} {f C : Addr} {fd : FuncData} {ps ks : List Str} {sp : Sp} {x : Str} {p pos : Pos} {kws : List Keyword} {tk : TA} {g : List Value → List Value → List Value} {gV : List V → List V → List V}
theorem run_makeGK (a : At X cfg) {pins : List (Addr × Obj)} {σ : L2.St} {H : Hp} {s : Shared} {Q : VK} {ws : List Value} {zs : List V} (M : Mk X.K C f) (F : FnG cfg k f fd ps sp) (hr : Room (k + 1) X.A) (hb : KBn cfg.K fd ps 1 ks g gV)
    (I : Inv X pins σ H s) (rz : Vals zs ws) (l2 : zs.length = ks.length)
    (h : ∀ x dx, H x = none → H dx = none → dx ≠ x → sp (gV [.ref x] zs) (upd (upd H dx (.own x)) x (.ins C dx [])) (fun v H2 => v = .non ∧ Q (.ref x) H2) E0) :
    wpAny (model X.prog X.w) X.A (call (.ref C) [] (ks.zip ws)) (EP X pins σ Q) X.xe s := by
  have hq := h (s.heap.objs.size + 1) s.heap.objs.size (I.hok.fresh (Nat.le_succ _)) (I.hok.fresh (Nat.le_refl _)) (Nat.ne_of_lt (Nat.lt_succ_self _))
  have I2 := Inv.made (C := C) I
  have r1 : Vals [V.ref (s.heap.objs.size + 1)] [Value.ref (s.heap.objs.size + 1)] := .cons rfl .nil
  have r2 := hb.rel r1 rz
  have e0 : Env0 cfg.P cfg.w cfg.K cfg.mg cfg.base (X.A.under (.builtin "type.__call__" ⟨.ref C :: [], ks.zip ws⟩)) X.stack { s with heap := (s.heap.push PySem.W.emptyDict).push (PySem.W.instObj C s.heap.objs.size) } (upd (upd H s.heap.objs.size (.own (s.heap.objs.size + 1))) (s.heap.objs.size + 1) (.ins C s.heap.objs.size [])) := by
    have z := I2.env0.make C [] (ks.zip ws)
    rw [a.hP, a.hw, a.hK, a.hmg, a.hbase] at z
    exact z
  have z := hb.to { s with heap := (s.heap.push PySem.W.emptyDict).push (PySem.W.instObj C s.heap.objs.size) } [Value.ref (s.heap.objs.size + 1)] ws (by have := I2.kIn; rw [a.hK] at this; exact this) rfl (rz.length.symm.trans l2)
  have w := F.go _ X.stack _ _ ⟨[Value.ref (s.heap.objs.size + 1)], ks.zip ws⟩ (g [Value.ref (s.heap.objs.size + 1)] ws) _ _ E0 (hr.make C [] (ks.zip ws)) (by exact a.gd) e0 z r2 hq
  rw [← a.hP, ← a.hw] at w
  refine wpAny_call (make_map (f := f) I.kIn M.makes M.init (beq_iff_eq.mp M.fn) (codeAny_mono w fun r s' hq' => ?_))
  cases r with
  | error e => exact hq'.elim
  | ok fl =>
    cases fl with
    | ret u =>
      obtain ⟨v, H', I3, rv, ev, q3⟩ := I2.after hq'
      subst ev
      exact ⟨rv, ⟨V.ref (s.heap.objs.size + 1), H', I3, rfl, q3⟩⟩
    | next => exact False.elim hq'
    | brk => exact False.elim hq'
    | cont => exact False.elim hq'
theorem pe_makeGK (a : At X cfg) (M : Mk X.K C f) (F : FnG cfg k f fd ps sp) (hr : Room (k + 1) X.A) (hg : Gl X x) (hm : X.mg x = some (.ref C)) (hb : KBn cfg.K fd ps 1 ks g gV) (hkw : PK X kws tk)
    (hall : (backToKw pos (keywordEach kws X.env)).all (·.1.isSome) = true) (hks : (backToKw pos (keywordEach kws X.env)).filterMap (·.1) = ks) (hdb : (x == ("__debug__" : Str)) = false)
    (hpl : ((backTo pos (starEach [] X.env)).any (·.1) || (backToKw pos (keywordEach kws X.env)).any (·.1.isNone)) = false) :
    PE X (.Call (.Name x p) [] kws pos) (tMakeK C 0 ks.length sp gV E0 tNil tk) := by
  refine ⟨fun pins s σ H Q I h => ?_⟩
  refine wpAny_Call_Name_kw (ld_glob I hg hm ?_ hdb)
  refine PySem.W.callWith_KW0 (h₀ := X.base) I.ok.mod.kin M.kp hall ?_ hpl
  refine thn (hkw.run pos pins s σ H _ I h) fun ws s2 ⟨zs, H2, I2, rz, l1, l2, q2⟩ => ⟨I2.kIn, ?_⟩
  rw [hks]
  exact run_makeGK a M F hr hb I2 rz l2 q2
end
section
variable {Γ : Gm} {C fa : Addr} {fd : FuncData} {ps ks : List Str} {np k : Nat} {x : Str} {p pos : Pos} {ms : List (M Ar)} {fn : List O → Option (O × List O)} {π ρ : List Nat} {kws : List Keyword}
theorem sd_makeK0 (F : ClD Γ.cfg k x C fa fd ps np fn) (o : Ord np π ρ) (hb : KBn Γ.cfg.K fd ps 1 ks (fun us ws => permL π (us ++ ws)) (fun vs zs => permL π (vs ++ zs))) (ha : Sars Γ (kws.map (·.value)) ms)
    (hl : (kws.map (·.value)).length + 1 = np := by rfl) (hkl : kws.length = ks.length := by rfl) (hk : k + 1 ≤ Γ.n := by exact Nat.le_of_ble_eq_true rfl) (hg : Γ.glo x = true := by kernel_rfl) (hdb : (x == ("__debug__" : Str)) = false := by kernel_rfl)
    (hall : ∀ env : PySem.Env, (backToKw pos (keywordEach kws env)).all (·.1.isSome) = true := by intro _; rfl) (hks : ∀ env : PySem.Env, (backToKw pos (keywordEach kws env)).filterMap (·.1) = ks := by intro _; rfl) (hpl : ∀ env : PySem.Env, (backToKw pos (keywordEach kws env)).any (·.1.isNone) = false := by intro _; rfl) :
    Sd Γ (.Call (.Name x p) [] kws pos) (mMake C (permF π ρ fn) ms) := ⟨fun X ok env ov env' hm σ H T hr Q q => by
  obtain ⟨ars, s1, os, s2, o', outs, s3, h1, h2, h3, h4, e1⟩ := mMake_some hm
  injection e1 with e1 e2
  subst e1 e2
  have hplain : ((backTo pos (starEach [] X.env)).any (·.1) || (backToKw pos (keywordEach kws X.env)).any (·.1.isNone)) = false := by
    rw [hpl X.env]; rfl
  refine ⟨_, pe_makeGK ok.at_ (by rw [ok.hK]; exact F.mks) F.ok (ok.room.mono hk) (ok.glo hg) (by rw [ok.hmg]; exact F.at_) hb pk_of (hall X.env) (hks X.env) hdb hplain, ?_⟩
  have w := ha.run X ok env ars s1 h1 σ H T hr (fun vs H' => RS Γ.cfg.K H' s1 σ ((List.zipWith Ar.its ars vs).flatten ++ T) ∧ ars.length = vs.length ∧ (∀ p ∈ ars.zip vs, p.1.at σ p.2)) fun vs H' r l a => ⟨r, l, a⟩
  refine wl_len.wl_mono (wl_len w) fun vs H' ⟨hv, r, l, a⟩ => ?_
  have hz' : vs.length = ks.length := by rw [hv, List.length_map]; exact hkl
  refine ⟨rfl, hz', ?_⟩
  intro xa dx hx hdx hne
  obtain ⟨lo, L, hE, hS⟩ := take_rs h2 l a r
  have hS1 := St.alloc (u := .own xa) hdx hS
  have hx1 : (upd H' dx (.own xa)) xa = none := by rw [upd_ne (Ne.symm hne)]; exact hx
  have hS2 := St.alloc (u := .ins C dx (([] : List Str).zip ([] : List V))) hx1 hS1
  have hS3 : St Γ.cfg.K _ (.rep (.obj C [] []) (.ref xa) :: (reps os vs ++ T ++ L)) := St.close_obj (ns := []) (os := []) (vs := []) (L := reps os vs ++ T ++ L) rfl rfl hS2
  have np1 : os.length + 1 = np := by rw [lo, hv]; exact hl
  obtain ⟨outs', g1, g2⟩ := permF_some h3
  have g2 : ov :: outs = permL ρ outs' := g2
  have l3 : outs'.length = np := F.len _ _ _ g1 ((permL_len (show (O.obj C [] [] :: os).length = np from np1) o.lt).trans o.len)
  have np2 : (ov :: outs).length = np := by rw [g2]; exact (permL_len l3 o.lt').trans o.len'
  refine sp_perm (vs := V.ref xa :: vs) o (fun os r outs => F.len os r outs) ?_
  refine ⟨T ++ L, .obj C [] [] :: os, .d .non, ov :: outs, h3, np1, by rw [List.length_cons, hv]; exact hl, np2, ?_, fun v H2 hS' => ?_⟩
  · show St Γ.cfg.K _ (.rep (.obj C [] []) (.ref xa) :: (reps os vs ++ (T ++ L)))
    rw [← List.append_assoc]; exact hS3
  · refine ⟨hS'.nonv, q _ _ ?_⟩
    have s4 : St Γ.cfg.K H2 (.rep ov (.ref xa) :: (reps outs vs ++ (T ++ L))) := hS'.drop
    have r3 : RS Γ.cfg.K H2 s2 σ ([.rep ov (.ref xa)] ++ (reps outs vs ++ T)) := ⟨L, hE, by
      rw [← List.append_assoc] at s4
      exact s4⟩
    exact give_rs h4 l a r3⟩
end
end BM
set_option Elab.async false
set_option linter.all false
set_option maxRecDepth 100000
set_option maxHeartbeats 4000000
namespace BM
open PySem PySem.Spec PyProof.Rows L2
variable [Tb]
def tMethK (C : Addr) (m : Str) (n : Nat) (sp : Sp) (gV : List V → List V → List V) (E : XK) (ta : TE) (tk : TA) : TE := fun σ H Q => ta σ H fun x H1 => ∃ a dx fs, x = .ref a ∧ H1 a = some (.ins C dx fs) ∧ fs.lookup m = none ∧
  tk σ H1 fun zs H2 => zs.length = n ∧ sp (gV [x] zs) H2 Q E
section
variable {X : Cx} {cfg : Cfg} {k : Nat} {f C : Addr} {fd : FuncData} {ps ks : List Str} {sp : Sp} {x m : Str} {p pos apos : Pos} {o : Expr} {kws : List Keyword} {ta : TE} {tk : TA} {g : List Value → List Value → List Value} {gV : List V → List V → List V}
theorem pe_methGK0 {pl : Sem Bool} (a : At X cfg) (he : PE X o ta) (c : Cls X.K C) (hm : Meth X.K C m f) (F : FnG cfg k f fd ps sp) (hr : Room k X.A) (hb : KBn cfg.K fd ps 1 ks g gV) (hkw : PK X kws tk)
    (hall : (backToKw pos (keywordEach kws X.env)).all (·.1.isSome) = true) (hks : (backToKw pos (keywordEach kws X.env)).filterMap (·.1) = ks)
    (hpl : ((backTo pos (starEach [] X.env)).any (·.1) || (backToKw pos (keywordEach kws X.env)).any (·.1.isNone)) = false)
    (ht : eval (.Call (.Attribute o m apos) [] kws pos) X.env = (do
      let ov ← eval o X.env
      standAt apos.atName
      let (f, first) ← holding [ov] (getMethod ov m pl)
      callWith pos f first (backTo pos (starEach [] X.env)) (backToKw pos (keywordEach kws X.env)))) :
    PE X (.Call (.Attribute o m apos) [] kws pos) (tMethK C m ks.length sp gV E0 ta tk) := by
  refine ⟨fun pins s σ H Q I h => ?_⟩
  refine PySem.W.methodCall_KW (pl := pl) (thn (he.run pins s σ H _ I h) fun u s1 ⟨x, H1, I1, rx, ad, dx, fs, ex, ea, l, q⟩ => ?_) ht
  subst ex
  obtain rfl : u = Value.ref ad := rx
  refine getmeth_ok I1 ea c hm l ?_
  refine PySem.W.callWith_KW0 (first := [.ref ad]) (h₀ := X.base) I1.ok.mod.kin hm.kp hall ?_ hpl
  refine thn (hkw.run pos pins s1 σ H1 _ I1 q) fun ws s2 ⟨zs, H2, I2, rz, l2, q2⟩ => ⟨I2.kIn, ?_⟩
  rw [hks]
  have z := hb.to s2 [Value.ref ad] ws (by have := I2.kIn; rw [a.hK] at this; exact this) rfl (rz.length.symm.trans l2)
  exact runG a (args := ⟨[Value.ref ad], ks.zip ws⟩) F hr I2 z (hb.rel (vs := [V.ref ad]) (.cons rfl .nil) rz) q2
end
section
variable {Γ : Gm} {C fa : Addr} {fd : FuncData} {ps ks : List Str} {np k : Nat} {f : Str} {pos apos : Pos} {o : Expr} {mo : M O} {ms : List (M Ar)} {fn : List O → Option (O × List O)} {π ρ : List Nat} {kws : List Keyword}
theorem sd_methK0 (pl : PySem.Env → Sem Bool) (F : FnM Γ.cfg k C f fa fd ps np fn) (or : Ord np π ρ) (hb : KBn Γ.cfg.K fd ps 1 ks (fun us ws => permL π (us ++ ws)) (fun vs zs => permL π (vs ++ zs))) (ho : Sd Γ o mo) (ha : Sars Γ (kws.map (·.value)) ms)
    (hl : (kws.map (·.value)).length + 1 = np := by rfl) (hkl : kws.length = ks.length := by rfl) (hk : k ≤ Γ.n := by exact Nat.le_of_ble_eq_true rfl)
    (hall : ∀ env : PySem.Env, (backToKw pos (keywordEach kws env)).all (·.1.isSome) = true := by intro _; rfl) (hks : ∀ env : PySem.Env, (backToKw pos (keywordEach kws env)).filterMap (·.1) = ks := by intro _; rfl) (hpl : ∀ env : PySem.Env, (backToKw pos (keywordEach kws env)).any (·.1.isNone) = false := by intro _; rfl)
    (ht : ∀ env : PySem.Env, eval (.Call (.Attribute o f apos) [] kws pos) env = (do
      let ov ← eval o env
      standAt apos.atName
      let (f, first) ← holding [ov] (getMethod ov f (pl env))
      callWith pos f first (backTo pos (starEach [] env)) (backToKw pos (keywordEach kws env))) := by intro _; rfl) :
    Sd Γ (.Call (.Attribute o f apos) [] kws pos) (mCall (permF π ρ fn) (aval (mObj C f mo) :: ms)) := ⟨fun X ok env o' env' hm σ H T hr Q q => by
  obtain ⟨ars, s1, os, s2, o', outs, s3, h1, h2, h3, h4, e1⟩ := mCall_some hm
  injection e1 with e1 e2
  subst e1 e2
  obtain ⟨a0, s0, l, g1, g2, g3⟩ := mars_cons h1
  subst g3
  obtain ⟨o0, g4, g5⟩ := aval_some g1
  subst g5
  obtain ⟨o1, ns, xs, g6, g7, g8, g9⟩ := mObj_some g4
  have g9 : o0 = .d (.obj C ns xs) := g9
  subst g9
  have hplain : ((backTo pos (starEach [] X.env)).any (·.1) || (backToKw pos (keywordEach kws X.env)).any (·.1.isNone)) = false := by
    rw [hpl X.env]; rfl
  refine ⟨_, pe_methGK0 (pl := pl X.env) ok.at_ (pe_best X o) (by rw [ok.hK]; exact F.cl) (by rw [ok.hK]; exact F.mt) F.ok (ok.room.mono hk) hb pk_of (hall X.env) (hks X.env) hplain (ht X.env), ?_⟩
  refine ho.run X ok env o1 s0 g6 σ H T hr _ fun v H1 r1 => ?_
  have r1 := r1.freeze
  rw [g7] at r1
  obtain ⟨a, dx, vs0, e1, e2⟩ := sd_obj_its r1
  subst e1
  refine ⟨a, dx, _, rfl, e2, lookup_no g8, ?_⟩
  have w := ha.run X ok s0 l s1 g2 σ H1 _ r1 (fun vs H' => RS Γ.cfg.K H' s1 σ ((List.zipWith Ar.its l vs).flatten ++ (.rep (.d (.obj C ns xs)) (.ref a) :: T)) ∧ l.length = vs.length ∧ (∀ p ∈ l.zip vs, p.1.at σ p.2)) fun vs H' r l a => ⟨r, l, a⟩
  refine wl_len.wl_mono (wl_len w) fun vs H' ⟨hv, r, l1, a1⟩ => ?_
  have hz' : vs.length = ks.length := by rw [hv, List.length_map]; exact hkl
  refine ⟨hz', ?_⟩
  have r2 : RS Γ.cfg.K H' s1 σ ((List.zipWith Ar.its (.val (.d (.obj C ns xs)) :: l) (.ref a :: vs)).flatten ++ T) := r.perm (by
    show List.Perm _ (.rep (.d (.obj C ns xs)) (.ref a) :: ((List.zipWith Ar.its l vs).flatten ++ T))
    exact List.perm_middle)
  have at2 : ∀ p ∈ (Ar.val (.d (.obj C ns xs)) :: l).zip (V.ref a :: vs), p.1.at σ p.2 := fun p hp => by
    rcases List.mem_cons.mp hp with rfl | hp
    · trivial
    · exact a1 p hp
  have l2 : (Ar.val (.d (.obj C ns xs)) :: l).length = (V.ref a :: vs).length := by simp [l1]
  have hos : os.length = (V.ref a :: vs).length := (take_rs h2 l2 at2 r2).1
  have hnp : (V.ref a :: vs).length = np := by rw [List.length_cons, hv]; exact hl
  obtain ⟨outs', g1', g2'⟩ := permF_some h3
  have g2' : outs = permL ρ outs' := g2'
  have l3 : outs'.length = np := F.len _ _ _ g1' ((permL_len (hos.trans hnp) or.lt).trans or.len)
  have l4 : outs.length = np := by rw [g2']; exact (permL_len l3 or.lt').trans or.len'
  exact sp_perm (vs := V.ref a :: vs) or (fun os r outs => F.len os r outs) (call_read (cfg := Γ.cfg) h2 h3 h4 l2 at2 r2 hnp l4 q)⟩
end
end BM
set_option Elab.async false
set_option linter.all false
set_option maxRecDepth 100000
namespace K39
open PySem PySem.Spec PyProof.Rows L2 BM
variable [Tb]
def topS (i : Nat) : Stmt := PySem.Challenge.pw_blendmarks_k39_rows_by_a_formula.main.body.getD i (.Pass ⟨0, 0, 0, 0⟩)
abbrev s_is_word : Stmt := topS 9
abbrev N_is_word : List Str := ["thing", "letters", "letter"]
abbrev P_is_word : List Str := ["thing", "letters"]
theorem sc_is_word : FnScope N_is_word P_is_word (defScope s_is_word) := ⟨rfl, rfl, rfl, by decide +kernel, rfl, by decide +kernel, by decide +kernel⟩
def m_is_word : M Fl := sSeq (sIf (tOr (tNot (mTst truth1 [mval (mIsi "str" (mVar 0))])) (tNot (tChn fLe fLe (mC (.int 1)) (mOp (w1 fLen) [mval (mVar 0)]) (mC (.int 8))))) (sRet (mC (.bl false))) (sPass))
  (sRet (mOp (w1 fAll) [mval (mLc [2] (iSX (mVar 0)) (gNm 2) (tYes) (mOp (bO (w2b fIn)) [mval (mVar 2), mval (mVar 1)]))]))
def c_is_word : List O → Option (O × List O) := callM [false, false] 1 (m_is_word)
set_option maxHeartbeats 40000000 in
theorem ok_is_word {cfg : Cfg} {a : Addr} {f : FuncData} (F : Fun cfg.K "is_word" "is_word" s_is_word a f) {u_MOST_LETTERS : Value} (g_MOST_LETTERS : cfg.mg "MOST_LETTERS" = some u_MOST_LETTERS) (r_MOST_LETTERS : RelV (.int 8) u_MOST_LETTERS) (h_all : cfg.mg "all" = none) (h_isinstance : cfg.mg "isinstance" = none) (h_len : cfg.mg "len" = none) (h_str : cfg.mg "str" = none) : FnG cfg 1 a f P_is_word (spOf cfg.K 2 c_is_word) := by
  have nd : (Gm.mk cfg N_is_word (defScope s_is_word).names (fun _ => true) 0 none).N.Nodup := sc_is_word.nd
  exact fn_ok (io := [false, false]) (n := 1) (m := m_is_word) F sc_is_word
    (sb_cons (ss_if (sdT_w (sdW_or (sdT_not (sdT_tr (sod_val (sd_isi (sd_var 0) (by kernel_rfl) h_isinstance (by kernel_rfl) h_str (by decide +kernel))))) (sdW_or1 (sdT_not (sdT_chain (sd_int) (sd_callB (ns_cons ns_nil) (sods_cons (sod_val (sd_var 0)) sods_nil) ok_len (by kernel_rfl) h_len (by rfl)) (sd_glob (d := .int 8) (v := .int 8) (by kernel_rfl) g_MOST_LETTERS r_MOST_LETTERS rfl) ok_le ok_le))))) (sb_one (ss_ret (sd_bl))) (sb_nil))
    (sb_one (ss_ret (sd_callB (ns_cons ns_nil) (sods_cons (sod_val (sd_lc (own := [(("letter" : Str), 2)]) (si_seqX (sd_var 0)) rfl (sg_nm 2) (sts_nil) (sd_cmp (sods_cons (sod_val (sd_var 2)) (sods_cons (sod_val (sd_var 1)) sods_nil)) ok_in) (by decide) (by kernel_rfl) nd)) sods_nil) ok_all (by kernel_rfl) h_all (by rfl)))))
theorem b_is_word {K : PySem.W.Frag} {a : Addr} {f : FuncData} (F : Fun K "is_word" "is_word" s_is_word a f) : Binds K f P_is_word [] := F.binds fun _ _ _ _ _ _ us hl => match us, hl with | [_, _], _ => rfl
abbrev s_are_rising : Stmt := topS 10
abbrev N_are_rising : List Str := ["items", "lower", "upper"]
abbrev P_are_rising : List Str := ["items"]
theorem sc_are_rising : FnScope N_are_rising P_are_rising (defScope s_are_rising) := ⟨rfl, rfl, rfl, by decide +kernel, rfl, by decide +kernel, by decide +kernel⟩
def m_are_rising : M Fl := sRet (mOp (w1 fAll) [mval (mLc [1, 2] (iZipS (mOp fSlH [mval (mVar 0), mval (mOp (w1 fNeg) [mval (mC (.int 1))])]) (mOp fSlL [mval (mVar 0), mval (mC (.int 1))])) (gTpS [gNm 1, gNm 2]) (tYes) (mOp (bO (w2b fLt)) [mval (mVar 1), mval (mVar 2)]))])
def c_are_rising : List O → Option (O × List O) := callM [false] 2 (m_are_rising)
set_option maxHeartbeats 40000000 in
theorem ok_are_rising {cfg : Cfg} {a : Addr} {f : FuncData} (F : Fun cfg.K "are_rising" "are_rising" s_are_rising a f) (h_all : cfg.mg "all" = none) (h_zip : cfg.mg "zip" = none) : FnG cfg 1 a f P_are_rising (spOf cfg.K 1 c_are_rising) := by
  have nd : (Gm.mk cfg N_are_rising (defScope s_are_rising).names (fun _ => true) 0 none).N.Nodup := sc_are_rising.nd
  exact fn_ok (io := [false]) (n := 2) (m := m_are_rising) F sc_are_rising
    (sb_one (ss_ret (sd_callB (ns_cons ns_nil) (sods_cons (sod_val (sd_lc (own := [(("lower" : Str), 1), (("upper" : Str), 2)]) (si_zipS (sar_cons (sd_slH (sods_cons (sod_val (sd_var 0)) (sods_cons (sod_val (sd_un (sods_cons (sod_val (sd_int)) sods_nil) ok_neg)) sods_nil))) (sar_cons (sd_slL (sods_cons (sod_val (sd_var 0)) (sods_cons (sod_val (sd_int)) sods_nil))) sar_nil)) (ns_cons (ns_cons ns_nil)) (by kernel_rfl) h_zip) rfl (sg_tpS (sgs_cons (sg_nm 1) (sgs_cons (sg_nm 2) sgs_nil))) (sts_nil) (sd_cmp (sods_cons (sod_val (sd_var 1)) (sods_cons (sod_val (sd_var 2)) sods_nil)) ok_lt) (by decide) (by kernel_rfl) nd)) sods_nil) ok_all (by kernel_rfl) h_all (by rfl))))
theorem b_are_rising {K : PySem.W.Frag} {a : Addr} {f : FuncData} (F : Fun K "are_rising" "are_rising" s_are_rising a f) : Binds K f P_are_rising [] := F.binds fun _ _ _ _ _ _ us hl => match us, hl with | [_], _ => rfl
abbrev s_fits_places : Stmt := topS 11
abbrev N_fits_places : List Str := ["places", "row", "mark", "place"]
abbrev P_fits_places : List Str := ["places", "row"]
theorem sc_fits_places : FnScope N_fits_places P_fits_places (defScope s_fits_places) := ⟨rfl, rfl, rfl, by decide +kernel, rfl, by decide +kernel, by decide +kernel⟩
def m_fits_places : M Fl := sSeq (sIf (mTst (w2b fNe) [mval (mOp (w1 fLen) [mval (mVar 1)]), mval (mOp (w1 fLen) [mval (mVar 0)])]) (sRet (mC (.bl false))) (sPass))
  (sRet (mOp (w1 fAll) [mval (mLc [2, 3] (iZipS (mVar 1) (mVar 0)) (gTpS [gNm 2, gNm 3]) (tYes) (mAnd (mIsi "str" (mVar 2)) (mOp (bO (w2b fIn)) [mval (mVar 2), mval (mVar 3)])))]))
def c_fits_places : List O → Option (O × List O) := callM [false, false] 2 (m_fits_places)
set_option maxHeartbeats 40000000 in
theorem ok_fits_places {cfg : Cfg} {a : Addr} {f : FuncData} (F : Fun cfg.K "fits_places" "fits_places" s_fits_places a f) (h_all : cfg.mg "all" = none) (h_isinstance : cfg.mg "isinstance" = none) (h_len : cfg.mg "len" = none) (h_str : cfg.mg "str" = none) (h_zip : cfg.mg "zip" = none) : FnG cfg 1 a f P_fits_places (spOf cfg.K 2 c_fits_places) := by
  have nd : (Gm.mk cfg N_fits_places (defScope s_fits_places).names (fun _ => true) 0 none).N.Nodup := sc_fits_places.nd
  exact fn_ok (io := [false, false]) (n := 2) (m := m_fits_places) F sc_fits_places
    (sb_cons (ss_if (sdT_cmp (sods_cons (sod_val (sd_callB (ns_cons ns_nil) (sods_cons (sod_val (sd_var 1)) sods_nil) ok_len (by kernel_rfl) h_len (by rfl))) (sods_cons (sod_val (sd_callB (ns_cons ns_nil) (sods_cons (sod_val (sd_var 0)) sods_nil) ok_len (by kernel_rfl) h_len (by rfl))) sods_nil)) ok_ne) (sb_one (ss_ret (sd_bl))) (sb_nil))
    (sb_one (ss_ret (sd_callB (ns_cons ns_nil) (sods_cons (sod_val (sd_lc (own := [(("mark" : Str), 2), (("place" : Str), 3)]) (si_zipS (sar_cons (sd_var 1) (sar_cons (sd_var 0) sar_nil)) (ns_cons (ns_cons ns_nil)) (by kernel_rfl) h_zip) rfl (sg_tpS (sgs_cons (sg_nm 2) (sgs_cons (sg_nm 3) sgs_nil))) (sts_nil) (sd_and (sd_isi (sd_var 2) (by kernel_rfl) h_isinstance (by kernel_rfl) h_str (by decide +kernel)) (sd_one (sd_cmp (sods_cons (sod_val (sd_var 2)) (sods_cons (sod_val (sd_var 3)) sods_nil)) ok_in))) (by decide) (by kernel_rfl) nd)) sods_nil) ok_all (by kernel_rfl) h_all (by rfl)))))
theorem b_fits_places {K : PySem.W.Frag} {a : Addr} {f : FuncData} (F : Fun K "fits_places" "fits_places" s_fits_places a f) : Binds K f P_fits_places [] := F.binds fun _ _ _ _ _ _ us hl => match us, hl with | [_, _], _ => rfl
abbrev s_Book___eq__ : Stmt := inClass (topS 30) 3
abbrev N_Book___eq__ : List Str := ["self", "other"]
abbrev P_Book___eq__ : List Str := ["self", "other"]
theorem sc_Book___eq__ : FnScope N_Book___eq__ P_Book___eq__ (defScope s_Book___eq__) := ⟨rfl, rfl, rfl, by decide +kernel, rfl, by decide +kernel, by decide +kernel⟩
def m_Book___eq__ (C_Book : Addr) : M Fl := sRet (mAnd (mIsO C_Book (mVar 1)) (mAnd (mOp (bO (w2b fEq)) [mval (mFld C_Book ("places" : Str) (mVar 0)), mval (mFld C_Book ("places" : Str) (mVar 1))]) (mOp (bO (w2b fEq)) [mval (mFld C_Book ("copies" : Str) (mVar 0)), mval (mFld C_Book ("copies" : Str) (mVar 1))])))
def c_Book___eq__ (C_Book : Addr) : List O → Option (O × List O) := callM [false, false] 0 (m_Book___eq__ C_Book)
set_option maxHeartbeats 40000000 in
theorem ok_Book___eq__ {cfg : Cfg} {a : Addr} {f : FuncData} (F : Fun cfg.K "__eq__" "Book.__eq__" s_Book___eq__ a f) {C_Book : Addr} (K_Book : Cls cfg.K C_Book) (N_Book_copies : NoAttr cfg.K C_Book "copies") (N_Book_places : NoAttr cfg.K C_Book "places") (gC_Book : cfg.mg "Book" = some (.ref C_Book)) (IC_Book : C8.InsC cfg.K C_Book) (h_isinstance : cfg.mg "isinstance" = none) : FnG cfg 1 a f P_Book___eq__ (spOf cfg.K 2 (c_Book___eq__ C_Book)) := by
  have nd : (Gm.mk cfg N_Book___eq__ (defScope s_Book___eq__).names (fun _ => true) 0 none).N.Nodup := sc_Book___eq__.nd
  exact fn_ok (io := [false, false]) (n := 0) (m := (m_Book___eq__ C_Book)) F sc_Book___eq__
    (sb_one (ss_ret (sd_and (sd_isO (sd_var 1) (by kernel_rfl) h_isinstance (by kernel_rfl) gC_Book IC_Book) (sd_and (sd_cmp (sods_cons (sod_val (sd_fld (sd_var 0) K_Book N_Book_places)) (sods_cons (sod_val (sd_fld (sd_var 1) K_Book N_Book_places)) sods_nil)) ok_eq) (sd_one (sd_cmp (sods_cons (sod_val (sd_fld (sd_var 0) K_Book N_Book_copies)) (sods_cons (sod_val (sd_fld (sd_var 1) K_Book N_Book_copies)) sods_nil)) ok_eq))))))
theorem b_Book___eq__ {K : PySem.W.Frag} {a : Addr} {f : FuncData} (F : Fun K "__eq__" "Book.__eq__" s_Book___eq__ a f) : Binds K f P_Book___eq__ [] := F.binds fun _ _ _ _ _ _ us hl => match us, hl with | [_, _], _ => rfl
abbrev s_Formula___init__ : Stmt := inClass (topS 33) 0
abbrev N_Formula___init__ : List Str := ["self", "prime", "places", "size"]
abbrev P_Formula___init__ : List Str := ["self", "prime", "places", "size"]
theorem sc_Formula___init__ : FnScope N_Formula___init__ P_Formula___init__ (defScope s_Formula___init__) := ⟨rfl, rfl, rfl, by decide +kernel, rfl, by decide +kernel, by decide +kernel⟩
def m_Formula___init__ (C_Formula : Addr) : M Fl := sSeq (sFldP 0 C_Formula ("prime" : Str) (mVar 1))
  (sSeq (sFldP 0 C_Formula ("places" : Str) (mVar 2))
  (sFldP 0 C_Formula ("size" : Str) (mVar 3)))
def c_Formula___init__ (C_Formula : Addr) : List O → Option (O × List O) := callM [true, false, false, false] 0 (m_Formula___init__ C_Formula)
set_option maxHeartbeats 40000000 in
theorem ok_Formula___init__ {cfg : Cfg} {a : Addr} {f : FuncData} (F : Fun cfg.K "__init__" "Formula.__init__" s_Formula___init__ a f) {C_Formula : Addr} (K_Formula : Cls cfg.K C_Formula) (N_Formula_places : NoAttr cfg.K C_Formula "places") (N_Formula_prime : NoAttr cfg.K C_Formula "prime") (N_Formula_size : NoAttr cfg.K C_Formula "size") : FnG cfg 1 a f P_Formula___init__ (spOf cfg.K 4 (c_Formula___init__ C_Formula)) := by
  have nd : (Gm.mk cfg N_Formula___init__ (defScope s_Formula___init__).names (fun _ => true) 0 none).N.Nodup := sc_Formula___init__.nd
  exact fn_ok (io := [true, false, false, false]) (n := 0) (m := (m_Formula___init__ C_Formula)) F sc_Formula___init__
    (sb_cons (ss_fldP 0 (sd_var 1) K_Formula N_Formula_prime)
    (sb_cons (ss_fldP 0 (sd_var 2) K_Formula N_Formula_places)
    (sb_one (ss_fldP 0 (sd_var 3) K_Formula N_Formula_size))))
theorem b_Formula___init__ {K : PySem.W.Frag} {a : Addr} {f : FuncData} (F : Fun K "__init__" "Formula.__init__" s_Formula___init__ a f) : Binds K f P_Formula___init__ [] := F.binds fun _ _ _ _ _ _ us hl => match us, hl with | [_, _, _, _], _ => rfl
theorem kb_Formula___init___1_size_prime_places {K : PySem.W.Frag} {a : Addr} {f : FuncData} (F : Fun K "__init__" "Formula.__init__" s_Formula___init__ a f) : KBn K f P_Formula___init__ 1 ["size", "prime", "places"] (fun us ws => permL [0, 2, 3, 1] (us ++ ws)) (fun vs zs => permL [0, 2, 3, 1] (vs ++ zs)) := by
  obtain ⟨oc, od, kV, doc, pm, an, cdv, ct, osl, rfl, lk, hcd⟩ := F.ex
  exact kbn_of fun s us ws l1 l2 => match us, ws, l1, l2 with | [u0], [z0, z1, z2], _, _ => .of_eq rfl
abbrev s_Formula_value_at : Stmt := inClass (topS 33) 1
abbrev N_Formula_value_at : List Str := ["self", "coefficients", "x", "value", "coefficient"]
abbrev P_Formula_value_at : List Str := ["self", "coefficients", "x"]
theorem sc_Formula_value_at : FnScope N_Formula_value_at P_Formula_value_at (defScope s_Formula_value_at) := ⟨rfl, rfl, rfl, by decide +kernel, rfl, by decide +kernel, by decide +kernel⟩
def m_Formula_value_at (C_Formula : Addr) : M Fl := sSeq (sSet 3 (mC (.int 0)))
  (sSeq (sFor (iRv (mVar 1)) (gNm 4) (sSet 3 (mOp (w2 fMod) [mval (mOp (w2 fAdd) [mval (mOp (w2 fMul) [mval (mVar 3), mval (mVar 2)]), mval (mVar 4)]), mval (mFld C_Formula ("prime" : Str) (mVar 0))])))
  (sRet (mVar 3)))
def c_Formula_value_at (C_Formula : Addr) : List O → Option (O × List O) := callM [false, false, false] 2 (m_Formula_value_at C_Formula)
set_option maxHeartbeats 40000000 in
theorem ok_Formula_value_at {cfg : Cfg} {a : Addr} {f : FuncData} (F : Fun cfg.K "value_at" "Formula.value_at" s_Formula_value_at a f) {C_Formula : Addr} (K_Formula : Cls cfg.K C_Formula) (N_Formula_prime : NoAttr cfg.K C_Formula "prime") (h_reversed : cfg.mg "reversed" = none) : FnG cfg 1 a f P_Formula_value_at (spOf cfg.K 3 (c_Formula_value_at C_Formula)) := by
  have nd : (Gm.mk cfg N_Formula_value_at (defScope s_Formula_value_at).names (fun _ => true) 0 none).N.Nodup := sc_Formula_value_at.nd
  exact fn_ok (io := [false, false, false]) (n := 2) (m := (m_Formula_value_at C_Formula)) F sc_Formula_value_at
    (sb_cons (ss_set 3 (sd_int))
    (sb_cons (ss_for (si_rev (sd_var 1) (by kernel_rfl) h_reversed) (sg_nm 4) (sb_one (ss_set 3 (sd_bin (sods_cons (sod_val (sd_bin (sods_cons (sod_val (sd_bin (sods_cons (sod_val (sd_var 3)) (sods_cons (sod_val (sd_var 2)) sods_nil)) ok_mul)) (sods_cons (sod_val (sd_var 4)) sods_nil)) ok_add)) (sods_cons (sod_val (sd_fld (sd_var 0) K_Formula N_Formula_prime)) sods_nil)) ok_mod))))
    (sb_one (ss_ret (sd_var 3)))))
theorem b_Formula_value_at {K : PySem.W.Frag} {a : Addr} {f : FuncData} (F : Fun K "value_at" "Formula.value_at" s_Formula_value_at a f) : Binds K f P_Formula_value_at [] := F.binds fun _ _ _ _ _ _ us hl => match us, hl with | [_, _, _], _ => rfl
abbrev s_l_deck : Stmt := topS 35
abbrev N_l_deck : List Str := ["_law_script", "_law_cells", "_law_total", "_law_cell"]
abbrev P_l_deck : List Str := ["_law_script"]
theorem sc_l_deck : FnScope N_l_deck P_l_deck (defScope s_l_deck) := ⟨rfl, rfl, rfl, by decide +kernel, rfl, by decide +kernel, by decide +kernel⟩
def m_l_deck : M Fl := sSeq (sPar 1 false 2 false (mOp (w1 fListX) [mval (mOp fSlH [mval (mVar 0), mval (mC (.int 63))])]) (mC (.int 39019)))
  (sSeq (sFor (iSX (mVar 1)) (gNm 3) (sSet 2 (mOp (w2 fMod) [mval (mOp (w2 fAdd) [mval (mOp (w2 fAdd) [mval (mOp (w2 fMul) [mval (mVar 2), mval (mC (.int 48271))]), mval (mOp (w2 fMod) [mval (mVar 3), mval (mC (.int 2147483629))])]), mval (mC (.int 29))]), mval (mC (.int 2147483587))])))
  (sRet (mDctS [("cells" : Str), ("total" : Str), ("draws" : Str)] [mRev (mVar 1), mVar 2, mC (.int 0)])))
def c_l_deck : List O → Option (O × List O) := callM [false] 3 (m_l_deck)
set_option maxHeartbeats 40000000 in
theorem ok_l_deck {cfg : Cfg} {a : Addr} {f : FuncData} (F : Fun cfg.K "_law_deck" "_law_deck" s_l_deck a f) (h_list : cfg.mg "list" = none) : FnG cfg 1 a f P_l_deck (spOf cfg.K 1 c_l_deck) := by
  have nd : (Gm.mk cfg N_l_deck (defScope s_l_deck).names (fun _ => true) 0 none).N.Nodup := sc_l_deck.nd
  exact fn_ok (io := [false]) (n := 3) (m := m_l_deck) F sc_l_deck
    (sb_cons (ss_par 1 false 2 false (ns_cons (ns_cons ns_nil)) (sar_cons (sd_callTy (ns_cons ns_nil) (sods_cons (sod_val (sd_slH (sods_cons (sod_val (sd_var 0)) (sods_cons (sod_val (sd_int)) sods_nil)))) sods_nil) ok_listX (by kernel_rfl) h_list (by rfl)) (sar_cons (sd_int) sar_nil)))
    (sb_cons (ss_for (si_seqX (sd_var 1)) (sg_nm 3) (sb_one (ss_set 2 (sd_bin (sods_cons (sod_val (sd_bin (sods_cons (sod_val (sd_bin (sods_cons (sod_val (sd_bin (sods_cons (sod_val (sd_var 2)) (sods_cons (sod_val (sd_int)) sods_nil)) ok_mul)) (sods_cons (sod_val (sd_bin (sods_cons (sod_val (sd_var 3)) (sods_cons (sod_val (sd_int)) sods_nil)) ok_mod)) sods_nil)) ok_add)) (sods_cons (sod_val (sd_int)) sods_nil)) ok_add)) (sods_cons (sod_val (sd_int)) sods_nil)) ok_mod))))
    (sb_one (ss_ret (sd_dctS (spr_cons sd_str (sd_rev (sd_var 1)) (spr_cons sd_str (sd_var 2) (spr_cons sd_str (sd_int) spr_nil))))))))
theorem b_l_deck {K : PySem.W.Frag} {a : Addr} {f : FuncData} (F : Fun K "_law_deck" "_law_deck" s_l_deck a f) : Binds K f P_l_deck [] := F.binds fun _ _ _ _ _ _ us hl => match us, hl with | [_], _ => rfl
abbrev s_l_draw : Stmt := topS 36
abbrev N_l_draw : List Str := ["_law_deck_here", "_law_many", "_law_turn", "_law_cell", "_law_mixed"]
abbrev P_l_draw : List Str := ["_law_deck_here", "_law_many"]
theorem sc_l_draw : FnScope N_l_draw P_l_draw (defScope s_l_draw) := ⟨rfl, rfl, rfl, by decide +kernel, rfl, by decide +kernel, by decide +kernel⟩
def m_l_draw : M Fl := sSeq (sPar 2 false 3 false (mOp (w2 fAdd) [mval (mGetD 0 ("draws" : Str)), mval (mC (.int 1))]) (mGetD 0 ("total" : Str)))
  (sSeq (sSetD 0 ("draws" : Str) (mVar 2))
  (sSeq (sIf (tKidNeD 0 ("cells" : Str)) (sSeq (sSet 3 (mKidPopD 0 ("cells" : Str)))
  (sSeq (sIf (mTst (w2b fGe) [mval (mVar 3), mval (mOp (w2 fPow) [mval (mC (.int 10)), mval (mC (.int 18))])]) (sSeq (sExpr (mKidAppD 0 ("cells" : Str) (mOp (w2 fDiv) [mval (mVar 3), mval (mVar 1)])))
  (sRet (mOp (w2 fMod) [mval (mVar 3), mval (mVar 1)]))) (sPass))
  (sSet 3 (mOp (w2 fAdd) [mval (mVar 3), mval (mGetD 0 ("total" : Str))])))) (sPass))
  (sSeq (sSet 4 (mOp (w2 fMod) [mval (mOp (w2 fMul) [mval (mOp (w2 fAdd) [mval (mOp (w2 fAdd) [mval (mOp (w2 fMod) [mval (mVar 3), mval (mC (.int 2147483629))]), mval (mOp (w2 fMul) [mval (mOp (w2 fMul) [mval (mC (.int 60037)), mval (mVar 2)]), mval (mVar 2)])]), mval (mC (.int 43))]), mval (mC (.int 40692))]), mval (mC (.int 2147483647))]))
  (sSeq (sSet 4 (mOp (w2 fMod) [mval (mOp (w2 fAdd) [mval (mOp (w2 fAdd) [mval (mOp (w2 fMul) [mval (mVar 4), mval (mVar 4)]), mval (mOp (w2 fMul) [mval (mC (.int 69661)), mval (mVar 2)])]), mval (mC (.int 17))]), mval (mC (.int 2147483587))]))
  (sRet (mOp (w2 fMod) [mval (mOp (w2 fDiv) [mval (mOp (w2 fMod) [mval (mOp (w2 fMul) [mval (mVar 4), mval (mC (.int 39373))]), mval (mC (.int 2147483563))]), mval (mC (.int 64))]), mval (mVar 1)]))))))
def c_l_draw : List O → Option (O × List O) := callM [true, false] 3 (m_l_draw)
set_option maxHeartbeats 40000000 in
theorem ok_l_draw {cfg : Cfg} {a : Addr} {f : FuncData} (F : Fun cfg.K "_law_draw" "_law_draw" s_l_draw a f) : FnG cfg 1 a f P_l_draw (spOf cfg.K 2 c_l_draw) := by
  have nd : (Gm.mk cfg N_l_draw (defScope s_l_draw).names (fun _ => true) 0 none).N.Nodup := sc_l_draw.nd
  exact fn_ok (io := [true, false]) (n := 3) (m := m_l_draw) F sc_l_draw
    (sb_cons (ss_par 2 false 3 false (ns_cons (ns_cons ns_nil)) (sar_cons (sd_bin (sods_cons (sod_val (sd_getD 0 sd_str)) (sods_cons (sod_val (sd_int)) sods_nil)) ok_add) (sar_cons (sd_getD 0 sd_str) sar_nil)))
    (sb_cons (ss_setD 0 (sd_var 2) sd_str)
    (sb_cons (ss_if (sdT_kidNeD 0 sd_str) (sb_cons (ss_set 3 (sd_kidPopD 0 sd_str))
    (sb_cons (ss_if (sdT_cmp (sods_cons (sod_val (sd_var 3)) (sods_cons (sod_val (sd_bin (sods_cons (sod_val (sd_int)) (sods_cons (sod_val (sd_int)) sods_nil)) ok_pow)) sods_nil)) ok_ge) (sb_cons (ss_expr (sd_kidAppD 0 sd_str (sd_bin (sods_cons (sod_val (sd_var 3)) (sods_cons (sod_val (sd_var 1)) sods_nil)) ok_div)))
    (sb_one (ss_ret (sd_bin (sods_cons (sod_val (sd_var 3)) (sods_cons (sod_val (sd_var 1)) sods_nil)) ok_mod)))) (sb_nil))
    (sb_one (ss_set 3 (sd_bin (sods_cons (sod_val (sd_var 3)) (sods_cons (sod_val (sd_getD 0 sd_str)) sods_nil)) ok_add))))) (sb_nil))
    (sb_cons (ss_set 4 (sd_bin (sods_cons (sod_val (sd_bin (sods_cons (sod_val (sd_bin (sods_cons (sod_val (sd_bin (sods_cons (sod_val (sd_bin (sods_cons (sod_val (sd_var 3)) (sods_cons (sod_val (sd_int)) sods_nil)) ok_mod)) (sods_cons (sod_val (sd_bin (sods_cons (sod_val (sd_bin (sods_cons (sod_val (sd_int)) (sods_cons (sod_val (sd_var 2)) sods_nil)) ok_mul)) (sods_cons (sod_val (sd_var 2)) sods_nil)) ok_mul)) sods_nil)) ok_add)) (sods_cons (sod_val (sd_int)) sods_nil)) ok_add)) (sods_cons (sod_val (sd_int)) sods_nil)) ok_mul)) (sods_cons (sod_val (sd_int)) sods_nil)) ok_mod))
    (sb_cons (ss_set 4 (sd_bin (sods_cons (sod_val (sd_bin (sods_cons (sod_val (sd_bin (sods_cons (sod_val (sd_bin (sods_cons (sod_val (sd_var 4)) (sods_cons (sod_val (sd_var 4)) sods_nil)) ok_mul)) (sods_cons (sod_val (sd_bin (sods_cons (sod_val (sd_int)) (sods_cons (sod_val (sd_var 2)) sods_nil)) ok_mul)) sods_nil)) ok_add)) (sods_cons (sod_val (sd_int)) sods_nil)) ok_add)) (sods_cons (sod_val (sd_int)) sods_nil)) ok_mod))
    (sb_one (ss_ret (sd_bin (sods_cons (sod_val (sd_bin (sods_cons (sod_val (sd_bin (sods_cons (sod_val (sd_bin (sods_cons (sod_val (sd_var 4)) (sods_cons (sod_val (sd_int)) sods_nil)) ok_mul)) (sods_cons (sod_val (sd_int)) sods_nil)) ok_mod)) (sods_cons (sod_val (sd_int)) sods_nil)) ok_div)) (sods_cons (sod_val (sd_var 1)) sods_nil)) ok_mod))))))))
theorem b_l_draw {K : PySem.W.Frag} {a : Addr} {f : FuncData} (F : Fun K "_law_draw" "_law_draw" s_l_draw a f) : Binds K f P_l_draw [] := F.binds fun _ _ _ _ _ _ us hl => match us, hl with | [_, _], _ => rfl
abbrev s_l_row : Stmt := topS 39
abbrev N_l_row : List Str := ["_law_p", "_law_width", "_law_numbers_here", "_law_found", "_law_x", "_law_total", "_law_power", "_law_number"]
abbrev P_l_row : List Str := ["_law_p", "_law_width", "_law_numbers_here"]
theorem sc_l_row : FnScope N_l_row P_l_row (defScope s_l_row) := ⟨rfl, rfl, rfl, by decide +kernel, rfl, by decide +kernel, by decide +kernel⟩
def m_l_row : M Fl := sSeq (sSet 3 (mTup []))
  (sSeq (sFor (iR1 (mVar 1)) (gNm 4) (sSeq (sTgt (gTpS [gNm 5, gNm 6]) (mTup [mC (.int 0), mC (.int 1)]))
  (sSeq (sFor (iSX (mVar 2)) (gNm 7) (sPar 5 false 6 false (mOp (w2 fAdd) [mval (mVar 5), mval (mOp (w2 fMul) [mval (mVar 7), mval (mVar 6)])]) (mOp (w2 fMul) [mval (mVar 6), mval (mVar 4)])))
  (sSet 3 (mOp (w2 fAdd) [mval (mVar 3), mval (mTup [mOp (w2 fIx) [mval (mC (.str ("ABCDEFGHIJKLMNOPQRSTUVWXYZ" : Str))), mval (mOp (w2 fMod) [mval (mVar 5), mval (mVar 0)])]])])))))
  (sRet (mVar 3)))
def c_l_row : List O → Option (O × List O) := callM [false, false, false] 5 (m_l_row)
set_option maxHeartbeats 40000000 in
theorem ok_l_row {cfg : Cfg} {a : Addr} {f : FuncData} (F : Fun cfg.K "_law_row" "_law_row" s_l_row a f) (h_range : cfg.mg "range" = none) : FnG cfg 1 a f P_l_row (spOf cfg.K 3 c_l_row) := by
  have nd : (Gm.mk cfg N_l_row (defScope s_l_row).names (fun _ => true) 0 none).N.Nodup := sc_l_row.nd
  exact fn_ok (io := [false, false, false]) (n := 5) (m := m_l_row) F sc_l_row
    (sb_cons (ss_set 3 (sd_tup ns_nil sar_nil))
    (sb_cons (ss_for (si_r1 (sd_var 1) (by kernel_rfl) h_range) (sg_nm 4) (sb_cons (ss_tgt (sd_tup (ns_cons (ns_cons ns_nil)) (sar_cons (sd_int) (sar_cons (sd_int) sar_nil))) (sg_tpS (sgs_cons (sg_nm 5) (sgs_cons (sg_nm 6) sgs_nil))) (hs := by rintro ⟨⟨_, _, _, _, _⟩, _, _, _, _, _, _, _, _⟩ rfl; rfl) (hw := fun _ _ => sw_fold (by rfl)))
    (sb_cons (ss_for (si_seqX (sd_var 2)) (sg_nm 7) (sb_one (ss_par 5 false 6 false (ns_cons (ns_cons ns_nil)) (sar_cons (sd_bin (sods_cons (sod_val (sd_var 5)) (sods_cons (sod_val (sd_bin (sods_cons (sod_val (sd_var 7)) (sods_cons (sod_val (sd_var 6)) sods_nil)) ok_mul)) sods_nil)) ok_add) (sar_cons (sd_bin (sods_cons (sod_val (sd_var 6)) (sods_cons (sod_val (sd_var 4)) sods_nil)) ok_mul) sar_nil)))))
    (sb_one (ss_set 3 (sd_bin (sods_cons (sod_val (sd_var 3)) (sods_cons (sod_val (sd_tup (ns_cons ns_nil) (sar_cons (sd_ix (sods_cons (sod_val (sd_str)) (sods_cons (sod_val (sd_bin (sods_cons (sod_val (sd_var 5)) (sods_cons (sod_val (sd_var 0)) sods_nil)) ok_mod)) sods_nil)) ok_ix) sar_nil))) sods_nil)) ok_add))))))
    (sb_one (ss_ret (sd_var 3)))))
theorem b_l_row {K : PySem.W.Frag} {a : Addr} {f : FuncData} (F : Fun K "_law_row" "_law_row" s_l_row a f) : Binds K f P_l_row [] := F.binds fun _ _ _ _ _ _ us hl => match us, hl with | [_, _, _], _ => rfl
abbrev s_is_name : Stmt := topS 23
abbrev N_is_name : List Str := ["thing"]
abbrev P_is_name : List Str := ["thing"]
theorem sc_is_name : FnScope N_is_name P_is_name (defScope s_is_name) := ⟨rfl, rfl, rfl, by decide +kernel, rfl, by decide +kernel, by decide +kernel⟩
def m_is_name : M Fl := sRet (mCall c_is_word [aval (mVar 0), aval (mC (.str ("abcdefghijklmnopqrstuvwxyz" : Str)))])
def c_is_name : List O → Option (O × List O) := callM [false] 0 (m_is_name)
set_option maxHeartbeats 40000000 in
theorem ok_is_name {cfg : Cfg} {a : Addr} {f : FuncData} (F : Fun cfg.K "is_name" "is_name" s_is_name a f) {u_LOWER_CASE : Value} (g_LOWER_CASE : cfg.mg "LOWER_CASE" = some u_LOWER_CASE) (r_LOWER_CASE : RelV (.str ("abcdefghijklmnopqrstuvwxyz" : Str)) u_LOWER_CASE) {a_is_word : Addr} {f_is_word : FuncData} (F_is_word : Fun cfg.K "is_word" "is_word" s_is_word a_is_word f_is_word) (D_is_word : FnD cfg 1 "is_word" a_is_word f_is_word P_is_word 2 c_is_word) (B_is_word : Binds cfg.K f_is_word P_is_word []) : FnG cfg 2 a f P_is_name (spOf cfg.K 1 c_is_name) := by
  have nd : (Gm.mk cfg N_is_name (defScope s_is_name).names (fun _ => true) 1 none).N.Nodup := sc_is_name.nd
  exact fn_ok (io := [false]) (n := 0) (m := m_is_name) F sc_is_name
    (sb_one (ss_ret (sd_call D_is_word B_is_word (ns_cons (ns_cons ns_nil)) (sars_cons (sar_val (sd_var 0)) (sars_cons (sar_val (sd_glob (d := .str ("abcdefghijklmnopqrstuvwxyz" : Str)) (v := .str ("abcdefghijklmnopqrstuvwxyz" : Str)) (by kernel_rfl) g_LOWER_CASE r_LOWER_CASE rfl)) sars_nil)))))
theorem b_is_name {K : PySem.W.Frag} {a : Addr} {f : FuncData} (F : Fun K "is_name" "is_name" s_is_name a f) : Binds K f P_is_name [] := F.binds fun _ _ _ _ _ _ us hl => match us, hl with | [_], _ => rfl
abbrev s_is_mark : Stmt := topS 24
abbrev N_is_mark : List Str := ["thing"]
abbrev P_is_mark : List Str := ["thing"]
theorem sc_is_mark : FnScope N_is_mark P_is_mark (defScope s_is_mark) := ⟨rfl, rfl, rfl, by decide +kernel, rfl, by decide +kernel, by decide +kernel⟩
def m_is_mark : M Fl := sRet (mCall c_is_word [aval (mVar 0), aval (mC (.str ("ABCDEFGHIJKLMNOPQRSTUVWXYZ" : Str)))])
def c_is_mark : List O → Option (O × List O) := callM [false] 0 (m_is_mark)
set_option maxHeartbeats 40000000 in
theorem ok_is_mark {cfg : Cfg} {a : Addr} {f : FuncData} (F : Fun cfg.K "is_mark" "is_mark" s_is_mark a f) {u_UPPER_CASE : Value} (g_UPPER_CASE : cfg.mg "UPPER_CASE" = some u_UPPER_CASE) (r_UPPER_CASE : RelV (.str ("ABCDEFGHIJKLMNOPQRSTUVWXYZ" : Str)) u_UPPER_CASE) {a_is_word : Addr} {f_is_word : FuncData} (F_is_word : Fun cfg.K "is_word" "is_word" s_is_word a_is_word f_is_word) (D_is_word : FnD cfg 1 "is_word" a_is_word f_is_word P_is_word 2 c_is_word) (B_is_word : Binds cfg.K f_is_word P_is_word []) : FnG cfg 2 a f P_is_mark (spOf cfg.K 1 c_is_mark) := by
  have nd : (Gm.mk cfg N_is_mark (defScope s_is_mark).names (fun _ => true) 1 none).N.Nodup := sc_is_mark.nd
  exact fn_ok (io := [false]) (n := 0) (m := m_is_mark) F sc_is_mark
    (sb_one (ss_ret (sd_call D_is_word B_is_word (ns_cons (ns_cons ns_nil)) (sars_cons (sar_val (sd_var 0)) (sars_cons (sar_val (sd_glob (d := .str ("ABCDEFGHIJKLMNOPQRSTUVWXYZ" : Str)) (v := .str ("ABCDEFGHIJKLMNOPQRSTUVWXYZ" : Str)) (by kernel_rfl) g_UPPER_CASE r_UPPER_CASE rfl)) sars_nil)))))
theorem b_is_mark {K : PySem.W.Frag} {a : Addr} {f : FuncData} (F : Fun K "is_mark" "is_mark" s_is_mark a f) : Binds K f P_is_mark [] := F.binds fun _ _ _ _ _ _ us hl => match us, hl with | [_], _ => rfl
abbrev s_is_row : Stmt := topS 27
abbrev N_is_row : List Str := ["places", "thing"]
abbrev P_is_row : List Str := ["places", "thing"]
theorem sc_is_row : FnScope N_is_row P_is_row (defScope s_is_row) := ⟨rfl, rfl, rfl, by decide +kernel, rfl, by decide +kernel, by decide +kernel⟩
def m_is_row : M Fl := sRet (mAnd (mIsi "tuple" (mVar 1)) (mCall c_fits_places [aval (mVar 0), aval (mVar 1)]))
def c_is_row : List O → Option (O × List O) := callM [false, false] 0 (m_is_row)
set_option maxHeartbeats 40000000 in
theorem ok_is_row {cfg : Cfg} {a : Addr} {f : FuncData} (F : Fun cfg.K "is_row" "is_row" s_is_row a f) {a_fits_places : Addr} {f_fits_places : FuncData} (F_fits_places : Fun cfg.K "fits_places" "fits_places" s_fits_places a_fits_places f_fits_places) (D_fits_places : FnD cfg 1 "fits_places" a_fits_places f_fits_places P_fits_places 2 c_fits_places) (B_fits_places : Binds cfg.K f_fits_places P_fits_places []) (h_isinstance : cfg.mg "isinstance" = none) (h_tuple : cfg.mg "tuple" = none) : FnG cfg 2 a f P_is_row (spOf cfg.K 2 c_is_row) := by
  have nd : (Gm.mk cfg N_is_row (defScope s_is_row).names (fun _ => true) 1 none).N.Nodup := sc_is_row.nd
  exact fn_ok (io := [false, false]) (n := 0) (m := m_is_row) F sc_is_row
    (sb_one (ss_ret (sd_and (sd_isi (sd_var 1) (by kernel_rfl) h_isinstance (by kernel_rfl) h_tuple (by decide +kernel)) (sd_one (sd_call D_fits_places B_fits_places (ns_cons (ns_cons ns_nil)) (sars_cons (sar_val (sd_var 0)) (sars_cons (sar_val (sd_var 1)) sars_nil)))))))
theorem b_is_row {K : PySem.W.Frag} {a : Addr} {f : FuncData} (F : Fun K "is_row" "is_row" s_is_row a f) : Binds K f P_is_row [] := F.binds fun _ _ _ _ _ _ us hl => match us, hl with | [_, _], _ => rfl
abbrev s_Formula_row : Stmt := inClass (topS 33) 2
abbrev N_Formula_row : List Str := ["self", "coefficients", "x"]
abbrev P_Formula_row : List Str := ["self", "coefficients"]
theorem sc_Formula_row : FnScope N_Formula_row P_Formula_row (defScope s_Formula_row) := ⟨rfl, rfl, rfl, by decide +kernel, rfl, by decide +kernel, by decide +kernel⟩
def m_Formula_row (C_Formula : Addr) : M Fl := sRet (mOp (w1 fTuple) [mval (mLc [2] (iR1 (mFld C_Formula ("places" : Str) (mVar 0))) (gNm 2) (tYes) (mOp (w2 fIx) [mval (mC (.str ("ABCDEFGHIJKLMNOPQRSTUVWXYZ" : Str))), mval (mCall (c_Formula_value_at C_Formula) [aval (mObj C_Formula ("value_at" : Str) (mVar 0)), aval (mVar 1), aval (mVar 2)])]))])
def c_Formula_row (C_Formula : Addr) : List O → Option (O × List O) := callM [false, false] 1 (m_Formula_row C_Formula)
set_option maxHeartbeats 40000000 in
theorem ok_Formula_row {cfg : Cfg} {a : Addr} {f : FuncData} (F : Fun cfg.K "row" "Formula.row" s_Formula_row a f) {C_Formula : Addr} (K_Formula : Cls cfg.K C_Formula) (N_Formula_places : NoAttr cfg.K C_Formula "places") {u_ALPHABET : Value} (g_ALPHABET : cfg.mg "ALPHABET" = some u_ALPHABET) (r_ALPHABET : RelV (.str ("ABCDEFGHIJKLMNOPQRSTUVWXYZ" : Str)) u_ALPHABET) {a_Formula_value_at : Addr} {f_Formula_value_at : FuncData} (M_Formula_value_at : FnM cfg 1 C_Formula "value_at" a_Formula_value_at f_Formula_value_at P_Formula_value_at 3 (c_Formula_value_at C_Formula)) (B_Formula_value_at : Binds cfg.K f_Formula_value_at P_Formula_value_at []) (h_range : cfg.mg "range" = none) (h_tuple : cfg.mg "tuple" = none) : FnG cfg 2 a f P_Formula_row (spOf cfg.K 2 (c_Formula_row C_Formula)) := by
  have nd : (Gm.mk cfg N_Formula_row (defScope s_Formula_row).names (fun _ => true) 1 none).N.Nodup := sc_Formula_row.nd
  exact fn_ok (io := [false, false]) (n := 1) (m := (m_Formula_row C_Formula)) F sc_Formula_row
    (sb_one (ss_ret (sd_callTy (ns_cons ns_nil) (sods_cons (sod_val (sd_lc (own := [(("x" : Str), 2)]) (si_r1 (sd_fld (sd_var 0) K_Formula N_Formula_places) (by kernel_rfl) h_range) rfl (sg_nm 2) (sts_nil) (sd_ix (sods_cons (sod_val (sd_glob (d := .str ("ABCDEFGHIJKLMNOPQRSTUVWXYZ" : Str)) (v := .str ("ABCDEFGHIJKLMNOPQRSTUVWXYZ" : Str)) (by kernel_rfl) g_ALPHABET r_ALPHABET rfl)) (sods_cons (sod_val (sd_meth _ M_Formula_value_at B_Formula_value_at (sd_var 0) (ns_cons (ns_cons ns_nil)) (sars_cons (sar_val (sd_var 1)) (sars_cons (sar_val (sd_var 2)) sars_nil)))) sods_nil)) ok_ix) (by decide) (by kernel_rfl) nd)) sods_nil) ok_tuple (by kernel_rfl) h_tuple (by rfl))))
theorem b_Formula_row {K : PySem.W.Frag} {a : Addr} {f : FuncData} (F : Fun K "row" "Formula.row" s_Formula_row a f) : Binds K f P_Formula_row [] := F.binds fun _ _ _ _ _ _ us hl => match us, hl with | [_, _], _ => rfl
theorem kb_Formula_row_1_coefficients {K : PySem.W.Frag} {a : Addr} {f : FuncData} (F : Fun K "row" "Formula.row" s_Formula_row a f) : KBn K f P_Formula_row 1 ["coefficients"] (fun us ws => permL [0, 1] (us ++ ws)) (fun vs zs => permL [0, 1] (vs ++ zs)) := by
  obtain ⟨oc, od, kV, doc, pm, an, cdv, ct, osl, rfl, lk, hcd⟩ := F.ex
  exact kbn_of fun s us ws l1 l2 => match us, ws, l1, l2 with | [u0], [z0], _, _ => .of_eq rfl
abbrev s_l_pick : Stmt := topS 37
abbrev N_l_pick : List Str := ["_law_deck_here", "_law_some"]
abbrev P_l_pick : List Str := ["_law_deck_here", "_law_some"]
theorem sc_l_pick : FnScope N_l_pick P_l_pick (defScope s_l_pick) := ⟨rfl, rfl, rfl, by decide +kernel, rfl, by decide +kernel, by decide +kernel⟩
def m_l_pick : M Fl := sRet (mOp (w2 fIx) [mPl 1, mval (mCall c_l_draw [aplc' 0, aval (mOp (w1 fLen) [mPl 1])])])
def c_l_pick : List O → Option (O × List O) := callM [true, true] 0 (m_l_pick)
set_option maxHeartbeats 40000000 in
theorem ok_l_pick {cfg : Cfg} {a : Addr} {f : FuncData} (F : Fun cfg.K "_law_pick" "_law_pick" s_l_pick a f) {a_l_draw : Addr} {f_l_draw : FuncData} (F_l_draw : Fun cfg.K "_law_draw" "_law_draw" s_l_draw a_l_draw f_l_draw) (D_l_draw : FnD cfg 1 "_law_draw" a_l_draw f_l_draw P_l_draw 2 c_l_draw) (B_l_draw : Binds cfg.K f_l_draw P_l_draw []) (h_len : cfg.mg "len" = none) : FnG cfg 2 a f P_l_pick (spOf cfg.K 2 c_l_pick) := by
  have nd : (Gm.mk cfg N_l_pick (defScope s_l_pick).names (fun _ => true) 1 none).N.Nodup := sc_l_pick.nd
  exact fn_ok (io := [true, true]) (n := 0) (m := m_l_pick) F sc_l_pick
    (sb_one (ss_ret (sd_ix (sods_cons (sod_pl 1) (sods_cons (sod_val (sd_call D_l_draw B_l_draw (ns_cons (ns_cons ns_nil)) (sars_cons (sar_plc 0) (sars_cons (sar_val (sd_callB (ns_cons ns_nil) (sods_cons (sod_pl 1) sods_nil) ok_len (by kernel_rfl) h_len (by rfl))) sars_nil)))) sods_nil)) ok_ix)))
theorem b_l_pick {K : PySem.W.Frag} {a : Addr} {f : FuncData} (F : Fun K "_law_pick" "_law_pick" s_l_pick a f) : Binds K f P_l_pick [] := F.binds fun _ _ _ _ _ _ us hl => match us, hl with | [_, _], _ => rfl
abbrev s_l_numbers : Stmt := topS 38
abbrev N_l_numbers : List Str := ["_law_deck_here", "_law_p", "_law_k", "_law_j"]
abbrev P_l_numbers : List Str := ["_law_deck_here", "_law_p", "_law_k"]
theorem sc_l_numbers : FnScope N_l_numbers P_l_numbers (defScope s_l_numbers) := ⟨rfl, rfl, rfl, by decide +kernel, rfl, by decide +kernel, by decide +kernel⟩
def m_l_numbers : M Fl := sRet (mOp (w1 fTuple) [mval (mLc [3] (iR1 (mVar 2)) (gNm 3) (tYes) (mCall c_l_draw [aplc' 0, aval (mVar 1)]))])
def c_l_numbers : List O → Option (O × List O) := callM [true, false, false] 1 (m_l_numbers)
set_option maxHeartbeats 40000000 in
theorem ok_l_numbers {cfg : Cfg} {a : Addr} {f : FuncData} (F : Fun cfg.K "_law_numbers" "_law_numbers" s_l_numbers a f) {a_l_draw : Addr} {f_l_draw : FuncData} (F_l_draw : Fun cfg.K "_law_draw" "_law_draw" s_l_draw a_l_draw f_l_draw) (D_l_draw : FnD cfg 1 "_law_draw" a_l_draw f_l_draw P_l_draw 2 c_l_draw) (B_l_draw : Binds cfg.K f_l_draw P_l_draw []) (h_range : cfg.mg "range" = none) (h_tuple : cfg.mg "tuple" = none) : FnG cfg 2 a f P_l_numbers (spOf cfg.K 3 c_l_numbers) := by
  have nd : (Gm.mk cfg N_l_numbers (defScope s_l_numbers).names (fun _ => true) 1 none).N.Nodup := sc_l_numbers.nd
  exact fn_ok (io := [true, false, false]) (n := 1) (m := m_l_numbers) F sc_l_numbers
    (sb_one (ss_ret (sd_callTy (ns_cons ns_nil) (sods_cons (sod_val (sd_lc (own := [(("_law_j" : Str), 3)]) (si_r1 (sd_var 2) (by kernel_rfl) h_range) rfl (sg_nm 3) (sts_nil) (sd_call D_l_draw B_l_draw (ns_cons (ns_cons ns_nil)) (sars_cons (sar_plc 0) (sars_cons (sar_val (sd_var 1)) sars_nil))) (by decide) (by kernel_rfl) nd)) sods_nil) ok_tuple (by kernel_rfl) h_tuple (by rfl))))
theorem b_l_numbers {K : PySem.W.Frag} {a : Addr} {f : FuncData} (F : Fun K "_law_numbers" "_law_numbers" s_l_numbers a f) : Binds K f P_l_numbers [] := F.binds fun _ _ _ _ _ _ us hl => match us, hl with | [_, _, _], _ => rfl
abbrev s_is_place : Stmt := topS 25
abbrev N_is_place : List Str := ["thing", "mark"]
abbrev P_is_place : List Str := ["thing"]
theorem sc_is_place : FnScope N_is_place P_is_place (defScope s_is_place) := ⟨rfl, rfl, rfl, by decide +kernel, rfl, by decide +kernel, by decide +kernel⟩
def m_is_place : M Fl := sSeq (sIf (tOr (tNot (mTst truth1 [mval (mIsi "tuple" (mVar 0))])) (mTst (w2b fEqZ) [mval (mVar 0), mval (mTup [])])) (sRet (mC (.bl false))) (sPass))
  (sRet (mAnd (mOp (w1 fAll) [mval (mLc [1] (iSX (mVar 0)) (gNm 1) (tYes) (mCall c_is_mark [aval (mVar 1)]))]) (mCall c_are_rising [aval (mVar 0)])))
def c_is_place : List O → Option (O × List O) := callM [false] 1 (m_is_place)
set_option maxHeartbeats 40000000 in
theorem ok_is_place {cfg : Cfg} {a : Addr} {f : FuncData} (F : Fun cfg.K "is_place" "is_place" s_is_place a f) (h_all : cfg.mg "all" = none) {a_are_rising : Addr} {f_are_rising : FuncData} (F_are_rising : Fun cfg.K "are_rising" "are_rising" s_are_rising a_are_rising f_are_rising) (D_are_rising : FnD cfg 1 "are_rising" a_are_rising f_are_rising P_are_rising 1 c_are_rising) (B_are_rising : Binds cfg.K f_are_rising P_are_rising []) {a_is_mark : Addr} {f_is_mark : FuncData} (F_is_mark : Fun cfg.K "is_mark" "is_mark" s_is_mark a_is_mark f_is_mark) (D_is_mark : FnD cfg 2 "is_mark" a_is_mark f_is_mark P_is_mark 1 c_is_mark) (B_is_mark : Binds cfg.K f_is_mark P_is_mark []) (h_isinstance : cfg.mg "isinstance" = none) (h_tuple : cfg.mg "tuple" = none) : FnG cfg 3 a f P_is_place (spOf cfg.K 1 c_is_place) := by
  have nd : (Gm.mk cfg N_is_place (defScope s_is_place).names (fun _ => true) 2 none).N.Nodup := sc_is_place.nd
  exact fn_ok (io := [false]) (n := 1) (m := m_is_place) F sc_is_place
    (sb_cons (ss_if (sdT_w (sdW_or (sdT_not (sdT_tr (sod_val (sd_isi (sd_var 0) (by kernel_rfl) h_isinstance (by kernel_rfl) h_tuple (by decide +kernel))))) (sdW_or1 (sdT_cmp (sods_cons (sod_val (sd_var 0)) (sods_cons (sod_val (sd_tup ns_nil sar_nil)) sods_nil)) ok_eqZ)))) (sb_one (ss_ret (sd_bl))) (sb_nil))
    (sb_one (ss_ret (sd_and (sd_callB (ns_cons ns_nil) (sods_cons (sod_val (sd_lc (own := [(("mark" : Str), 1)]) (si_seqX (sd_var 0)) rfl (sg_nm 1) (sts_nil) (sd_call D_is_mark B_is_mark (ns_cons ns_nil) (sars_cons (sar_val (sd_var 1)) sars_nil)) (by decide) (by kernel_rfl) nd)) sods_nil) ok_all (by kernel_rfl) h_all (by rfl)) (sd_one (sd_call D_are_rising B_are_rising (ns_cons ns_nil) (sars_cons (sar_val (sd_var 0)) sars_nil)))))))
theorem b_is_place {K : PySem.W.Frag} {a : Addr} {f : FuncData} (F : Fun K "is_place" "is_place" s_is_place a f) : Binds K f P_is_place [] := F.binds fun _ _ _ _ _ _ us hl => match us, hl with | [_], _ => rfl
abbrev s_is_copy : Stmt := topS 28
abbrev N_is_copy : List Str := ["places", "thing"]
abbrev P_is_copy : List Str := ["places", "thing"]
theorem sc_is_copy : FnScope N_is_copy P_is_copy (defScope s_is_copy) := ⟨rfl, rfl, rfl, by decide +kernel, rfl, by decide +kernel, by decide +kernel⟩
def m_is_copy : M Fl := sSeq (sIf (tOr (tNot (mTst truth1 [mval (mIsi "tuple" (mVar 1))])) (mTst (w2b fNe) [mval (mOp (w1 fLen) [mval (mVar 1)]), mval (mC (.int 2))])) (sRet (mC (.bl false))) (sPass))
  (sRet (mAnd (mCall c_is_name [aval (mOp (w2 fIx) [mval (mVar 1), mval (mC (.int 0))])]) (mCall c_is_row [aval (mVar 0), aval (mOp (w2 fIx) [mval (mVar 1), mval (mC (.int 1))])])))
def c_is_copy : List O → Option (O × List O) := callM [false, false] 0 (m_is_copy)
set_option maxHeartbeats 40000000 in
theorem ok_is_copy {cfg : Cfg} {a : Addr} {f : FuncData} (F : Fun cfg.K "is_copy" "is_copy" s_is_copy a f) {u_COPY_PARTS : Value} (g_COPY_PARTS : cfg.mg "COPY_PARTS" = some u_COPY_PARTS) (r_COPY_PARTS : RelV (.int 2) u_COPY_PARTS) {a_is_name : Addr} {f_is_name : FuncData} (F_is_name : Fun cfg.K "is_name" "is_name" s_is_name a_is_name f_is_name) (D_is_name : FnD cfg 2 "is_name" a_is_name f_is_name P_is_name 1 c_is_name) (B_is_name : Binds cfg.K f_is_name P_is_name []) {a_is_row : Addr} {f_is_row : FuncData} (F_is_row : Fun cfg.K "is_row" "is_row" s_is_row a_is_row f_is_row) (D_is_row : FnD cfg 2 "is_row" a_is_row f_is_row P_is_row 2 c_is_row) (B_is_row : Binds cfg.K f_is_row P_is_row []) (h_isinstance : cfg.mg "isinstance" = none) (h_len : cfg.mg "len" = none) (h_tuple : cfg.mg "tuple" = none) : FnG cfg 3 a f P_is_copy (spOf cfg.K 2 c_is_copy) := by
  have nd : (Gm.mk cfg N_is_copy (defScope s_is_copy).names (fun _ => true) 2 none).N.Nodup := sc_is_copy.nd
  exact fn_ok (io := [false, false]) (n := 0) (m := m_is_copy) F sc_is_copy
    (sb_cons (ss_if (sdT_w (sdW_or (sdT_not (sdT_tr (sod_val (sd_isi (sd_var 1) (by kernel_rfl) h_isinstance (by kernel_rfl) h_tuple (by decide +kernel))))) (sdW_or1 (sdT_cmp (sods_cons (sod_val (sd_callB (ns_cons ns_nil) (sods_cons (sod_val (sd_var 1)) sods_nil) ok_len (by kernel_rfl) h_len (by rfl))) (sods_cons (sod_val (sd_glob (d := .int 2) (v := .int 2) (by kernel_rfl) g_COPY_PARTS r_COPY_PARTS rfl)) sods_nil)) ok_ne)))) (sb_one (ss_ret (sd_bl))) (sb_nil))
    (sb_one (ss_ret (sd_and (sd_call D_is_name B_is_name (ns_cons ns_nil) (sars_cons (sar_val (sd_ix (sods_cons (sod_val (sd_var 1)) (sods_cons (sod_val (sd_int)) sods_nil)) ok_ix)) sars_nil)) (sd_one (sd_call D_is_row B_is_row (ns_cons (ns_cons ns_nil)) (sars_cons (sar_val (sd_var 0)) (sars_cons (sar_val (sd_ix (sods_cons (sod_val (sd_var 1)) (sods_cons (sod_val (sd_int)) sods_nil)) ok_ix)) sars_nil))))))))
theorem b_is_copy {K : PySem.W.Frag} {a : Addr} {f : FuncData} (F : Fun K "is_copy" "is_copy" s_is_copy a f) : Binds K f P_is_copy [] := F.binds fun _ _ _ _ _ _ us hl => match us, hl with | [_, _], _ => rfl
abbrev s_l_shape : Stmt := topS 40
abbrev N_l_shape : List Str := ["_law_deck_here", "_law_turn", "_law_p", "_law_width"]
abbrev P_l_shape : List Str := ["_law_deck_here", "_law_turn"]
theorem sc_l_shape : FnScope N_l_shape P_l_shape (defScope s_l_shape) := ⟨rfl, rfl, rfl, by decide +kernel, rfl, by decide +kernel, by decide +kernel⟩
def m_l_shape : M Fl := sSeq (sSet 2 (mOp (w2 fIx) [mval (mLst [mC (.int 2), mC (.int 3), mC (.int 5), mC (.int 23), mCall c_l_pick [aplc' 0, aval (mLst [mC (.int 7), mC (.int 11), mC (.int 13)])], mCall c_l_pick [aplc' 0, aval (mLst [mC (.int 17), mC (.int 19), mC (.int 23)])]]), mval (mVar 1)]))
  (sSeq (sSet 3 (mCall c_l_pick [aplc' 0, aval (mLst [mVar 2, mVar 2, mOp (w2 fAdd) [mval (mC (.int 1)), mval (mCall c_l_draw [aplc' 0, aval (mVar 2)])]])]))
  (sRet (mTup [mVar 2, mVar 3, mOp (w2 fAdd) [mval (mC (.int 1)), mval (mCall c_l_draw [aplc' 0, aval (mOp (w2 fMin2) [mval (mC (.int 4)), mval (mVar 3)])])]])))
def c_l_shape : List O → Option (O × List O) := callM [true, false] 2 (m_l_shape)
set_option maxHeartbeats 40000000 in
theorem ok_l_shape {cfg : Cfg} {a : Addr} {f : FuncData} (F : Fun cfg.K "_law_shape" "_law_shape" s_l_shape a f) {a_l_draw : Addr} {f_l_draw : FuncData} (F_l_draw : Fun cfg.K "_law_draw" "_law_draw" s_l_draw a_l_draw f_l_draw) (D_l_draw : FnD cfg 1 "_law_draw" a_l_draw f_l_draw P_l_draw 2 c_l_draw) (B_l_draw : Binds cfg.K f_l_draw P_l_draw []) {a_l_pick : Addr} {f_l_pick : FuncData} (F_l_pick : Fun cfg.K "_law_pick" "_law_pick" s_l_pick a_l_pick f_l_pick) (D_l_pick : FnD cfg 2 "_law_pick" a_l_pick f_l_pick P_l_pick 2 c_l_pick) (B_l_pick : Binds cfg.K f_l_pick P_l_pick []) (h_min : cfg.mg "min" = none) : FnG cfg 3 a f P_l_shape (spOf cfg.K 2 c_l_shape) := by
  have nd : (Gm.mk cfg N_l_shape (defScope s_l_shape).names (fun _ => true) 2 none).N.Nodup := sc_l_shape.nd
  exact fn_ok (io := [true, false]) (n := 2) (m := m_l_shape) F sc_l_shape
    (sb_cons (ss_set 2 (sd_ix (sods_cons (sod_val (sd_lst (ns_cons (ns_cons (ns_cons (ns_cons (ns_cons (ns_cons ns_nil)))))) (sar_cons (sd_int) (sar_cons (sd_int) (sar_cons (sd_int) (sar_cons (sd_int) (sar_cons (sd_call D_l_pick B_l_pick (ns_cons (ns_cons ns_nil)) (sars_cons (sar_plc 0) (sars_cons (sar_val (sd_lst (ns_cons (ns_cons (ns_cons ns_nil))) (sar_cons (sd_int) (sar_cons (sd_int) (sar_cons (sd_int) sar_nil))))) sars_nil))) (sar_cons (sd_call D_l_pick B_l_pick (ns_cons (ns_cons ns_nil)) (sars_cons (sar_plc 0) (sars_cons (sar_val (sd_lst (ns_cons (ns_cons (ns_cons ns_nil))) (sar_cons (sd_int) (sar_cons (sd_int) (sar_cons (sd_int) sar_nil))))) sars_nil))) sar_nil)))))))) (sods_cons (sod_val (sd_var 1)) sods_nil)) ok_ix))
    (sb_cons (ss_set 3 (sd_call D_l_pick B_l_pick (ns_cons (ns_cons ns_nil)) (sars_cons (sar_plc 0) (sars_cons (sar_val (sd_lst (ns_cons (ns_cons (ns_cons ns_nil))) (sar_cons (sd_var 2) (sar_cons (sd_var 2) (sar_cons (sd_bin (sods_cons (sod_val (sd_int)) (sods_cons (sod_val (sd_call D_l_draw B_l_draw (ns_cons (ns_cons ns_nil)) (sars_cons (sar_plc 0) (sars_cons (sar_val (sd_var 2)) sars_nil)))) sods_nil)) ok_add) sar_nil))))) sars_nil))))
    (sb_one (ss_ret (sd_tup (ns_cons (ns_cons (ns_cons ns_nil))) (sar_cons (sd_var 2) (sar_cons (sd_var 3) (sar_cons (sd_bin (sods_cons (sod_val (sd_int)) (sods_cons (sod_val (sd_call D_l_draw B_l_draw (ns_cons (ns_cons ns_nil)) (sars_cons (sar_plc 0) (sars_cons (sar_val (sd_callB (ns_cons (ns_cons ns_nil)) (sods_cons (sod_val (sd_int)) (sods_cons (sod_val (sd_var 3)) sods_nil)) ok_min2 (by kernel_rfl) h_min (by rfl))) sars_nil)))) sods_nil)) ok_add) sar_nil))))))))
theorem b_l_shape {K : PySem.W.Frag} {a : Addr} {f : FuncData} (F : Fun K "_law_shape" "_law_shape" s_l_shape a f) : Binds K f P_l_shape [] := F.binds fun _ _ _ _ _ _ us hl => match us, hl with | [_, _], _ => rfl
abbrev s_l_lists : Stmt := topS 41
abbrev N_l_lists : List Str := ["_law_deck_here", "_law_p", "_law_k", "_law_found", "_law_turn", "_law_numbers_here", "_law_at"]
abbrev P_l_lists : List Str := ["_law_deck_here", "_law_p", "_law_k"]
theorem sc_l_lists : FnScope N_l_lists P_l_lists (defScope s_l_lists) := ⟨rfl, rfl, rfl, by decide +kernel, rfl, by decide +kernel, by decide +kernel⟩
def m_l_lists : M Fl := sSeq (sSetO 3 (mLst [mOp (w2 fMulY) [mval (mTup [mC (.int 0)]), mval (mVar 2)], mOp (w2 fMulY) [mval (mTup [mOp (w2 fSub) [mval (mVar 1), mval (mC (.int 1))]]), mval (mVar 2)]]))
  (sSeq (sFor (iR1 (mC (.int 8))) (gNm 4) (sSeq (sSet 5 (mCall c_l_numbers [aplc' 0, aval (mVar 1), aval (mVar 2)]))
  (sSeq (sIf (mTst (w2b fEq) [mval (mCall c_l_draw [aplc' 0, aval (mC (.int 2))]), mval (mC (.int 0))]) (sSeq (sSet 6 (mCall c_l_draw [aplc' 0, aval (mVar 2)]))
  (sSet 5 (mOp (w2 fAdd) [mval (mOp (w2 fAdd) [mval (mOp fSlH [mval (mOp (w2 fIx) [mPl 3, mval (mOp (w1 fNeg) [mval (mC (.int 1))])]), mval (mVar 6)]), mval (mTup [mOp (w2 fIx) [mval (mVar 5), mval (mVar 6)]])]), mval (mOp fSlL [mval (mOp (w2 fIx) [mPl 3, mval (mOp (w1 fNeg) [mval (mC (.int 1))])]), mval (mOp (w2 fAdd) [mval (mVar 6), mval (mC (.int 1))])])]))) (sPass))
  (sExpr (mApp 3 (mVar 5))))))
  (sRet (mMv 3)))
def c_l_lists : List O → Option (O × List O) := callM [true, false, false] 4 (m_l_lists)
set_option maxHeartbeats 40000000 in
theorem ok_l_lists {cfg : Cfg} {a : Addr} {f : FuncData} (F : Fun cfg.K "_law_lists" "_law_lists" s_l_lists a f) {a_l_draw : Addr} {f_l_draw : FuncData} (F_l_draw : Fun cfg.K "_law_draw" "_law_draw" s_l_draw a_l_draw f_l_draw) (D_l_draw : FnD cfg 1 "_law_draw" a_l_draw f_l_draw P_l_draw 2 c_l_draw) (B_l_draw : Binds cfg.K f_l_draw P_l_draw []) {a_l_numbers : Addr} {f_l_numbers : FuncData} (F_l_numbers : Fun cfg.K "_law_numbers" "_law_numbers" s_l_numbers a_l_numbers f_l_numbers) (D_l_numbers : FnD cfg 2 "_law_numbers" a_l_numbers f_l_numbers P_l_numbers 3 c_l_numbers) (B_l_numbers : Binds cfg.K f_l_numbers P_l_numbers []) (h_range : cfg.mg "range" = none) : FnG cfg 3 a f P_l_lists (spOf cfg.K 3 c_l_lists) := by
  have nd : (Gm.mk cfg N_l_lists (defScope s_l_lists).names (fun _ => true) 2 none).N.Nodup := sc_l_lists.nd
  exact fn_ok (io := [true, false, false]) (n := 4) (m := m_l_lists) F sc_l_lists
    (sb_cons (ss_setO 3 (sd_lst (ns_cons (ns_cons ns_nil)) (sar_cons (sd_bin (sods_cons (sod_val (sd_tup (ns_cons ns_nil) (sar_cons (sd_int) sar_nil))) (sods_cons (sod_val (sd_var 2)) sods_nil)) ok_mulY) (sar_cons (sd_bin (sods_cons (sod_val (sd_tup (ns_cons ns_nil) (sar_cons (sd_bin (sods_cons (sod_val (sd_var 1)) (sods_cons (sod_val (sd_int)) sods_nil)) ok_sub) sar_nil))) (sods_cons (sod_val (sd_var 2)) sods_nil)) ok_mulY) sar_nil))))
    (sb_cons (ss_for (si_r1 (sd_int) (by kernel_rfl) h_range) (sg_nm 4) (sb_cons (ss_set 5 (sd_call D_l_numbers B_l_numbers (ns_cons (ns_cons (ns_cons ns_nil))) (sars_cons (sar_plc 0) (sars_cons (sar_val (sd_var 1)) (sars_cons (sar_val (sd_var 2)) sars_nil)))))
    (sb_cons (ss_if (sdT_cmp (sods_cons (sod_val (sd_call D_l_draw B_l_draw (ns_cons (ns_cons ns_nil)) (sars_cons (sar_plc 0) (sars_cons (sar_val (sd_int)) sars_nil)))) (sods_cons (sod_val (sd_int)) sods_nil)) ok_eq) (sb_cons (ss_set 6 (sd_call D_l_draw B_l_draw (ns_cons (ns_cons ns_nil)) (sars_cons (sar_plc 0) (sars_cons (sar_val (sd_var 2)) sars_nil))))
    (sb_one (ss_set 5 (sd_bin (sods_cons (sod_val (sd_bin (sods_cons (sod_val (sd_slH (sods_cons (sod_val (sd_ix (sods_cons (sod_pl 3) (sods_cons (sod_val (sd_un (sods_cons (sod_val (sd_int)) sods_nil) ok_neg)) sods_nil)) ok_ix)) (sods_cons (sod_val (sd_var 6)) sods_nil)))) (sods_cons (sod_val (sd_tup (ns_cons ns_nil) (sar_cons (sd_ix (sods_cons (sod_val (sd_var 5)) (sods_cons (sod_val (sd_var 6)) sods_nil)) ok_ix) sar_nil))) sods_nil)) ok_add)) (sods_cons (sod_val (sd_slL (sods_cons (sod_val (sd_ix (sods_cons (sod_pl 3) (sods_cons (sod_val (sd_un (sods_cons (sod_val (sd_int)) sods_nil) ok_neg)) sods_nil)) ok_ix)) (sods_cons (sod_val (sd_bin (sods_cons (sod_val (sd_var 6)) (sods_cons (sod_val (sd_int)) sods_nil)) ok_add)) sods_nil)))) sods_nil)) ok_add)))) (sb_nil))
    (sb_one (ss_expr (sd_app 3 (sd_var 5)))))))
    (sb_one (ss_ret (sd_mv 3)))))
theorem b_l_lists {K : PySem.W.Frag} {a : Addr} {f : FuncData} (F : Fun K "_law_lists" "_law_lists" s_l_lists a f) : Binds K f P_l_lists [] := F.binds fun _ _ _ _ _ _ us hl => match us, hl with | [_, _, _], _ => rfl
abbrev s_l_rows_right : Stmt := topS 42
abbrev N_l_rows_right : List Str := ["_law_rule", "_law_shape_here", "_law_some", "_law_p", "_law_width", "_law_k", "_law_rows", "_law_numbers_here", "_law_one", "_law_other", "_law_agreed", "_law_x"]
abbrev P_l_rows_right : List Str := ["_law_rule", "_law_shape_here", "_law_some"]
theorem sc_l_rows_right : FnScope N_l_rows_right P_l_rows_right (defScope s_l_rows_right) := ⟨rfl, rfl, rfl, by decide +kernel, rfl, by decide +kernel, by decide +kernel⟩
def m_l_rows_right (C_Formula : Addr) : M Fl := sSeq (sTgt (gTpS [gNm 3, gNm 4, gNm 5]) (mVar 1))
  (sSeq (sSet 6 (mLc [7] (iSX (mVar 2)) (gNm 7) (tYes) (mCall c_l_row [aval (mVar 3), aval (mVar 4), aval (mVar 7)])))
  (sSeq (sIf (mTst (w2b fNe) [mval (mOp (w1 fReprN) [mval (mLc [7] (iSX (mVar 2)) (gNm 7) (tYes) (mCall (c_Formula_row C_Formula) [aval (mObj C_Formula ("row" : Str) (mVar 0)), aval (mVar 7)]))]), mval (mOp (w1 fReprN) [mval (mVar 6)])]) (sRet (mC (.bl false))) (sPass))
  (sSeq (sFor (iR1 (mOp (w1 fLen) [mval (mVar 2)])) (gNm 8) (sFor (iR1 (mVar 8)) (gNm 9) (sSeq (sSet 10 (mLc [11] (iR1 (mVar 4)) (gNm 11) (mTst (w2b fEq) [mval (mOp (w2 fIx) [mval (mOp (w2 fIx) [mval (mVar 6), mval (mVar 8)]), mval (mVar 11)]), mval (mOp (w2 fIx) [mval (mOp (w2 fIx) [mval (mVar 6), mval (mVar 9)]), mval (mVar 11)])]) (mVar 11)))
  (sIf (tAnd (mTst (w2b fNe) [mval (mOp (w2 fIx) [mval (mVar 2), mval (mVar 8)]), mval (mOp (w2 fIx) [mval (mVar 2), mval (mVar 9)])]) (mTst (w2b fGe) [mval (mOp (w1 fLen) [mval (mVar 10)]), mval (mVar 5)])) (sRet (mC (.bl false))) (sPass)))))
  (sRet (mOp (bO (w2b fEq)) [mval (mOp (w1 fReprN) [mval (mCall (permF [0, 1] [0, 1] (c_Formula_row C_Formula)) [aval (mObj C_Formula ("row" : Str) (mVar 0)), aval (mOp (w2 fIx) [mval (mVar 2), mval (mC (.int 2))])])]), mval (mOp (w1 fReprN) [mval (mOp (w2 fIx) [mval (mVar 6), mval (mC (.int 2))])])])))))
def c_l_rows_right (C_Formula : Addr) : List O → Option (O × List O) := callM [false, false, false] 9 (m_l_rows_right C_Formula)
set_option maxHeartbeats 40000000 in
theorem ok_l_rows_right {cfg : Cfg} {a : Addr} {f : FuncData} (F : Fun cfg.K "_law_rows_right" "_law_rows_right" s_l_rows_right a f) {C_Formula : Addr} {a_Formula_row : Addr} {f_Formula_row : FuncData} (M_Formula_row : FnM cfg 2 C_Formula "row" a_Formula_row f_Formula_row P_Formula_row 2 (c_Formula_row C_Formula)) (B_Formula_row : Binds cfg.K f_Formula_row P_Formula_row []) (F_Formula_row : Fun cfg.K "row" "Formula.row" s_Formula_row a_Formula_row f_Formula_row) {a_l_row : Addr} {f_l_row : FuncData} (F_l_row : Fun cfg.K "_law_row" "_law_row" s_l_row a_l_row f_l_row) (D_l_row : FnD cfg 1 "_law_row" a_l_row f_l_row P_l_row 3 c_l_row) (B_l_row : Binds cfg.K f_l_row P_l_row []) (h_len : cfg.mg "len" = none) (h_range : cfg.mg "range" = none) (h_repr : cfg.mg "repr" = none) : FnG cfg 3 a f P_l_rows_right (spOf cfg.K 3 (c_l_rows_right C_Formula)) := by
  have nd : (Gm.mk cfg N_l_rows_right (defScope s_l_rows_right).names (fun _ => true) 2 none).N.Nodup := sc_l_rows_right.nd
  exact fn_ok (io := [false, false, false]) (n := 9) (m := (m_l_rows_right C_Formula)) F sc_l_rows_right
    (sb_cons (ss_tgt (sd_var 1) (sg_tpS (sgs_cons (sg_nm 3) (sgs_cons (sg_nm 4) (sgs_cons (sg_nm 5) sgs_nil)))) (hs := by rintro ⟨⟨_, _, _, _, _⟩, _, _, _, _, _, _, _, _⟩ rfl; rfl) (hw := by rintro ⟨⟨_, _, _, _, _⟩, _, _, _, _, _, _, _, _⟩ rfl; first | rfl | (simp [swappedStores]; done)))
    (sb_cons (ss_set 6 (sd_lc (own := [(("_law_numbers_here" : Str), 7)]) (si_seqX (sd_var 2)) rfl (sg_nm 7) (sts_nil) (sd_call D_l_row B_l_row (ns_cons (ns_cons (ns_cons ns_nil))) (sars_cons (sar_val (sd_var 3)) (sars_cons (sar_val (sd_var 4)) (sars_cons (sar_val (sd_var 7)) sars_nil)))) (by decide) (by kernel_rfl) nd) (hs := fun _ he => sw_cell he (by kernel_rfl)))
    (sb_cons (ss_if (sdT_cmp (sods_cons (sod_val (sd_callB (ns_cons ns_nil) (sods_cons (sod_val (sd_lc (own := [(("_law_numbers_here" : Str), 7)]) (si_seqX (sd_var 2)) rfl (sg_nm 7) (sts_nil) (sd_meth _ M_Formula_row B_Formula_row (sd_var 0) (ns_cons ns_nil) (sars_cons (sar_val (sd_var 7)) sars_nil)) (by decide) (by kernel_rfl) nd)) sods_nil) ok_reprN (by kernel_rfl) h_repr (by rfl))) (sods_cons (sod_val (sd_callB (ns_cons ns_nil) (sods_cons (sod_val (sd_var 6)) sods_nil) ok_reprN (by kernel_rfl) h_repr (by rfl))) sods_nil)) ok_ne) (sb_one (ss_ret (sd_bl))) (sb_nil))
    (sb_cons (ss_for (si_r1 (sd_callB (ns_cons ns_nil) (sods_cons (sod_val (sd_var 2)) sods_nil) ok_len (by kernel_rfl) h_len (by rfl)) (by kernel_rfl) h_range) (sg_nm 8) (sb_one (ss_for (si_r1 (sd_var 8) (by kernel_rfl) h_range) (sg_nm 9) (sb_cons (ss_setLc (i := 10) (own := [(("_law_x" : Str), 11)]) (si_r1 (sd_var 4) (by kernel_rfl) h_range) rfl (sg_nm 11) (sts_one (sdT_cmp (sods_cons (sod_val (sd_ix (sods_cons (sod_val (sd_ix (sods_cons (sod_val (sd_var 6)) (sods_cons (sod_val (sd_var 8)) sods_nil)) ok_ix)) (sods_cons (sod_val (sd_var 11)) sods_nil)) ok_ix)) (sods_cons (sod_val (sd_ix (sods_cons (sod_val (sd_ix (sods_cons (sod_val (sd_var 6)) (sods_cons (sod_val (sd_var 9)) sods_nil)) ok_ix)) (sods_cons (sod_val (sd_var 11)) sods_nil)) ok_ix)) sods_nil)) ok_eq)) (sd_var 11) (by decide) (by kernel_rfl) nd rfl (by kernel_rfl) rfl (by kernel_rfl))
    (sb_one (ss_if (sdT_w (sdW_and (sdT_cmp (sods_cons (sod_val (sd_ix (sods_cons (sod_val (sd_var 2)) (sods_cons (sod_val (sd_var 8)) sods_nil)) ok_ix)) (sods_cons (sod_val (sd_ix (sods_cons (sod_val (sd_var 2)) (sods_cons (sod_val (sd_var 9)) sods_nil)) ok_ix)) sods_nil)) ok_ne) (sdW_and1 (sdT_cmp (sods_cons (sod_val (sd_callB (ns_cons ns_nil) (sods_cons (sod_val (sd_var 10)) sods_nil) ok_len (by kernel_rfl) h_len (by rfl))) (sods_cons (sod_val (sd_var 5)) sods_nil)) ok_ge)))) (sb_one (ss_ret (sd_bl))) (sb_nil)))))))
    (sb_one (ss_ret (sd_cmp (sods_cons (sod_val (sd_callB (ns_cons ns_nil) (sods_cons (sod_val (sd_methK0 _ M_Formula_row (ord_of (π := [0, 1]) (ρ := [0, 1]) (by decide +kernel)) (kb_Formula_row_1_coefficients F_Formula_row) (sd_var 0) (sars_cons (sar_val (sd_ix (sods_cons (sod_val (sd_var 2)) (sods_cons (sod_val (sd_int)) sods_nil)) ok_ix)) sars_nil))) sods_nil) ok_reprN (by kernel_rfl) h_repr (by rfl))) (sods_cons (sod_val (sd_callB (ns_cons ns_nil) (sods_cons (sod_val (sd_ix (sods_cons (sod_val (sd_var 6)) (sods_cons (sod_val (sd_int)) sods_nil)) ok_ix)) sods_nil) ok_reprN (by kernel_rfl) h_repr (by rfl))) sods_nil)) ok_eq)))))))
theorem b_l_rows_right {K : PySem.W.Frag} {a : Addr} {f : FuncData} (F : Fun K "_law_rows_right" "_law_rows_right" s_l_rows_right a f) : Binds K f P_l_rows_right [] := F.binds fun _ _ _ _ _ _ us hl => match us, hl with | [_, _, _], _ => rfl
abbrev s_are_places : Stmt := topS 26
abbrev N_are_places : List Str := ["thing", "place"]
abbrev P_are_places : List Str := ["thing"]
theorem sc_are_places : FnScope N_are_places P_are_places (defScope s_are_places) := ⟨rfl, rfl, rfl, by decide +kernel, rfl, by decide +kernel, by decide +kernel⟩
def m_are_places : M Fl := sRet (mAnd (mIsi "tuple" (mVar 0)) (mOp (w1 fAll) [mval (mLc [1] (iSX (mVar 0)) (gNm 1) (tYes) (mCall c_is_place [aval (mVar 1)]))]))
def c_are_places : List O → Option (O × List O) := callM [false] 1 (m_are_places)
set_option maxHeartbeats 40000000 in
theorem ok_are_places {cfg : Cfg} {a : Addr} {f : FuncData} (F : Fun cfg.K "are_places" "are_places" s_are_places a f) (h_all : cfg.mg "all" = none) {a_is_place : Addr} {f_is_place : FuncData} (F_is_place : Fun cfg.K "is_place" "is_place" s_is_place a_is_place f_is_place) (D_is_place : FnD cfg 3 "is_place" a_is_place f_is_place P_is_place 1 c_is_place) (B_is_place : Binds cfg.K f_is_place P_is_place []) (h_isinstance : cfg.mg "isinstance" = none) (h_tuple : cfg.mg "tuple" = none) : FnG cfg 4 a f P_are_places (spOf cfg.K 1 c_are_places) := by
  have nd : (Gm.mk cfg N_are_places (defScope s_are_places).names (fun _ => true) 3 none).N.Nodup := sc_are_places.nd
  exact fn_ok (io := [false]) (n := 1) (m := m_are_places) F sc_are_places
    (sb_one (ss_ret (sd_and (sd_isi (sd_var 0) (by kernel_rfl) h_isinstance (by kernel_rfl) h_tuple (by decide +kernel)) (sd_one (sd_callB (ns_cons ns_nil) (sods_cons (sod_val (sd_lc (own := [(("place" : Str), 1)]) (si_seqX (sd_var 0)) rfl (sg_nm 1) (sts_nil) (sd_call D_is_place B_is_place (ns_cons ns_nil) (sars_cons (sar_val (sd_var 1)) sars_nil)) (by decide) (by kernel_rfl) nd)) sods_nil) ok_all (by kernel_rfl) h_all (by rfl))))))
theorem b_are_places {K : PySem.W.Frag} {a : Addr} {f : FuncData} (F : Fun K "are_places" "are_places" s_are_places a f) : Binds K f P_are_places [] := F.binds fun _ _ _ _ _ _ us hl => match us, hl with | [_], _ => rfl
abbrev s_are_copies : Stmt := topS 29
abbrev N_are_copies : List Str := ["places", "thing", "one", "holder", "row"]
abbrev P_are_copies : List Str := ["places", "thing"]
theorem sc_are_copies : FnScope N_are_copies P_are_copies (defScope s_are_copies) := ⟨rfl, rfl, rfl, by decide +kernel, rfl, by decide +kernel, by decide +kernel⟩
def m_are_copies : M Fl := sSeq (sIf (tOr (tNot (mTst truth1 [mval (mIsi "tuple" (mVar 1))])) (tNot (mTst truth1 [mval (mOp (w1 fAll) [mval (mLc [2] (iSX (mVar 1)) (gNm 2) (tYes) (mCall c_is_copy [aval (mVar 0), aval (mVar 2)]))])]))) (sRet (mC (.bl false))) (sPass))
  (sRet (mCall c_are_rising [aval (mLc [3, 4] (iSX (mVar 1)) (gTpS [gNm 3, gNm 4]) (tYes) (mVar 3))]))
def c_are_copies : List O → Option (O × List O) := callM [false, false] 3 (m_are_copies)
set_option maxHeartbeats 40000000 in
theorem ok_are_copies {cfg : Cfg} {a : Addr} {f : FuncData} (F : Fun cfg.K "are_copies" "are_copies" s_are_copies a f) (h_all : cfg.mg "all" = none) {a_are_rising : Addr} {f_are_rising : FuncData} (F_are_rising : Fun cfg.K "are_rising" "are_rising" s_are_rising a_are_rising f_are_rising) (D_are_rising : FnD cfg 1 "are_rising" a_are_rising f_are_rising P_are_rising 1 c_are_rising) (B_are_rising : Binds cfg.K f_are_rising P_are_rising []) {a_is_copy : Addr} {f_is_copy : FuncData} (F_is_copy : Fun cfg.K "is_copy" "is_copy" s_is_copy a_is_copy f_is_copy) (D_is_copy : FnD cfg 3 "is_copy" a_is_copy f_is_copy P_is_copy 2 c_is_copy) (B_is_copy : Binds cfg.K f_is_copy P_is_copy []) (h_isinstance : cfg.mg "isinstance" = none) (h_tuple : cfg.mg "tuple" = none) : FnG cfg 4 a f P_are_copies (spOf cfg.K 2 c_are_copies) := by
  have nd : (Gm.mk cfg N_are_copies (defScope s_are_copies).names (fun _ => true) 3 none).N.Nodup := sc_are_copies.nd
  exact fn_ok (io := [false, false]) (n := 3) (m := m_are_copies) F sc_are_copies
    (sb_cons (ss_if (sdT_w (sdW_or (sdT_not (sdT_tr (sod_val (sd_isi (sd_var 1) (by kernel_rfl) h_isinstance (by kernel_rfl) h_tuple (by decide +kernel))))) (sdW_or1 (sdT_not (sdT_tr (sod_val (sd_callB (ns_cons ns_nil) (sods_cons (sod_val (sd_lc (own := [(("one" : Str), 2)]) (si_seqX (sd_var 1)) rfl (sg_nm 2) (sts_nil) (sd_call D_is_copy B_is_copy (ns_cons (ns_cons ns_nil)) (sars_cons (sar_val (sd_var 0)) (sars_cons (sar_val (sd_var 2)) sars_nil))) (by decide) (by kernel_rfl) nd)) sods_nil) ok_all (by kernel_rfl) h_all (by rfl)))))))) (sb_one (ss_ret (sd_bl))) (sb_nil))
    (sb_one (ss_ret (sd_call D_are_rising B_are_rising (ns_cons ns_nil) (sars_cons (sar_val (sd_lc (own := [(("holder" : Str), 3), (("row" : Str), 4)]) (si_seqX (sd_var 1)) rfl (sg_tpS (sgs_cons (sg_nm 3) (sgs_cons (sg_nm 4) sgs_nil))) (sts_nil) (sd_var 3) (by decide) (by kernel_rfl) nd)) sars_nil)))))
theorem b_are_copies {K : PySem.W.Frag} {a : Addr} {f : FuncData} (F : Fun K "are_copies" "are_copies" s_are_copies a f) : Binds K f P_are_copies [] := F.binds fun _ _ _ _ _ _ us hl => match us, hl with | [_, _], _ => rfl
abbrev s_Book___init__ : Stmt := inClass (topS 30) 2
abbrev N_Book___init__ : List Str := ["self", "places", "copies"]
abbrev P_Book___init__ : List Str := ["self", "places", "copies"]
theorem sc_Book___init__ : FnScope N_Book___init__ P_Book___init__ (defScope s_Book___init__) := ⟨rfl, rfl, rfl, by decide +kernel, rfl, by decide +kernel, by decide +kernel⟩
def m_Book___init__ (C_Book : Addr) : M Fl := sSeq (sIf (tNot (mTst truth1 [mval (mCall c_are_places [aval (mVar 1)])])) (sFail) (sPass))
  (sSeq (sIf (tNot (mTst truth1 [mval (mCall c_are_copies [aval (mVar 1), aval (mVar 2)])])) (sFail) (sPass))
  (sSeq (sFldP 0 C_Book ("places" : Str) (mVar 1))
  (sFldP 0 C_Book ("copies" : Str) (mVar 2))))
def c_Book___init__ (C_Book : Addr) : List O → Option (O × List O) := callM [true, false, false] 0 (m_Book___init__ C_Book)
set_option maxHeartbeats 40000000 in
theorem ok_Book___init__ {cfg : Cfg} {a : Addr} {f : FuncData} (F : Fun cfg.K "__init__" "Book.__init__" s_Book___init__ a f) {C_Book : Addr} (K_Book : Cls cfg.K C_Book) (N_Book_copies : NoAttr cfg.K C_Book "copies") (N_Book_places : NoAttr cfg.K C_Book "places") {a_are_copies : Addr} {f_are_copies : FuncData} (F_are_copies : Fun cfg.K "are_copies" "are_copies" s_are_copies a_are_copies f_are_copies) (D_are_copies : FnD cfg 4 "are_copies" a_are_copies f_are_copies P_are_copies 2 c_are_copies) (B_are_copies : Binds cfg.K f_are_copies P_are_copies []) {a_are_places : Addr} {f_are_places : FuncData} (F_are_places : Fun cfg.K "are_places" "are_places" s_are_places a_are_places f_are_places) (D_are_places : FnD cfg 4 "are_places" a_are_places f_are_places P_are_places 1 c_are_places) (B_are_places : Binds cfg.K f_are_places P_are_places []) : FnG cfg 5 a f P_Book___init__ (spOf cfg.K 3 (c_Book___init__ C_Book)) := by
  have nd : (Gm.mk cfg N_Book___init__ (defScope s_Book___init__).names (fun _ => true) 4 none).N.Nodup := sc_Book___init__.nd
  exact fn_ok (io := [true, false, false]) (n := 0) (m := (m_Book___init__ C_Book)) F sc_Book___init__
    (sb_cons (ss_if (sdT_not (sdT_tr (sod_val (sd_call D_are_places B_are_places (ns_cons ns_nil) (sars_cons (sar_val (sd_var 1)) sars_nil))))) (sb_one (ss_fail)) (sb_nil))
    (sb_cons (ss_if (sdT_not (sdT_tr (sod_val (sd_call D_are_copies B_are_copies (ns_cons (ns_cons ns_nil)) (sars_cons (sar_val (sd_var 1)) (sars_cons (sar_val (sd_var 2)) sars_nil)))))) (sb_one (ss_fail)) (sb_nil))
    (sb_cons (ss_fldP 0 (sd_var 1) K_Book N_Book_places)
    (sb_one (ss_fldP 0 (sd_var 2) K_Book N_Book_copies)))))
theorem b_Book___init__ {K : PySem.W.Frag} {a : Addr} {f : FuncData} (F : Fun K "__init__" "Book.__init__" s_Book___init__ a f) : Binds K f P_Book___init__ [] := F.binds fun _ _ _ _ _ _ us hl => match us, hl with | [_, _, _], _ => rfl
abbrev s_Formula_book_of : Stmt := inClass (topS 33) 3
abbrev N_Formula_book_of : List Str := ["self", "copies", "rows", "name", "coefficients"]
abbrev P_Formula_book_of : List Str := ["self", "copies"]
theorem sc_Formula_book_of : FnScope N_Formula_book_of P_Formula_book_of (defScope s_Formula_book_of) := ⟨rfl, rfl, rfl, by decide +kernel, rfl, by decide +kernel, by decide +kernel⟩
def m_Formula_book_of (C_Book : Addr) (C_Formula : Addr) : M Fl := sSeq (sSet 2 (mOp (w1 fSortedE) [mval (mLc [3, 4] (iSX (mVar 1)) (gTpS [gNm 3, gNm 4]) (tYes) (mTup [mVar 3, mCall (c_Formula_row C_Formula) [aval (mObj C_Formula ("row" : Str) (mVar 0)), aval (mVar 4)]]))]))
  (sRet (mMake C_Book (c_Book___init__ C_Book) [aval (mOp (w2 fMulY) [mval (mTup [mOp (w1 fTuple) [mval (mOp (w1 fListX) [mval (mOp fSlH [mval (mC (.str ("ABCDEFGHIJKLMNOPQRSTUVWXYZ" : Str))), mval (mFld C_Formula ("prime" : Str) (mVar 0))])])]]), mval (mFld C_Formula ("places" : Str) (mVar 0))]), aval (mOp (w1 fTuple) [mval (mVar 2)])]))
def c_Formula_book_of (C_Book : Addr) (C_Formula : Addr) : List O → Option (O × List O) := callM [false, false] 3 (m_Formula_book_of C_Book C_Formula)
set_option maxHeartbeats 40000000 in
theorem ok_Formula_book_of {cfg : Cfg} {a : Addr} {f : FuncData} (F : Fun cfg.K "book_of" "Formula.book_of" s_Formula_book_of a f) {C_Book : Addr} {C_Formula : Addr} (K_Formula : Cls cfg.K C_Formula) (N_Formula_places : NoAttr cfg.K C_Formula "places") (N_Formula_prime : NoAttr cfg.K C_Formula "prime") {u_ALPHABET : Value} (g_ALPHABET : cfg.mg "ALPHABET" = some u_ALPHABET) (r_ALPHABET : RelV (.str ("ABCDEFGHIJKLMNOPQRSTUVWXYZ" : Str)) u_ALPHABET) {a_Formula_row : Addr} {f_Formula_row : FuncData} (M_Formula_row : FnM cfg 2 C_Formula "row" a_Formula_row f_Formula_row P_Formula_row 2 (c_Formula_row C_Formula)) (B_Formula_row : Binds cfg.K f_Formula_row P_Formula_row []) {a_Book___init__ : Addr} {f_Book___init__ : FuncData} (CD_Book : ClD cfg 5 "Book" C_Book a_Book___init__ f_Book___init__ P_Book___init__ 3 (c_Book___init__ C_Book)) (B_Book___init__ : Binds cfg.K f_Book___init__ P_Book___init__ []) (h_list : cfg.mg "list" = none) (h_sorted : cfg.mg "sorted" = none) (h_tuple : cfg.mg "tuple" = none) : FnA cfg 7 a (starSp 1 (spOf cfg.K 2 (c_Formula_book_of C_Book C_Formula))) := by
  have nd : (Gm.mk cfg N_Formula_book_of (defScope s_Formula_book_of).names (fun _ => true) 6 none).N.Nodup := sc_Formula_book_of.nd
  exact fn_okA (ps := ["self"]) (pv := "copies") (io := [false, false]) (n := 3) (m := (m_Formula_book_of C_Book C_Formula)) F sc_Formula_book_of (fun _ _ _ _ _ _ us rest hl => match us, rest, hl with | [_], [], _ => rfl | [_], _ :: _, _ => rfl)
    (sb_cons (ss_set 2 (sd_callB (ns_cons ns_nil) (sods_cons (sod_val (sd_lc (own := [(("name" : Str), 3), (("coefficients" : Str), 4)]) (si_seqX (sd_var 1)) rfl (sg_tpS (sgs_cons (sg_nm 3) (sgs_cons (sg_nm 4) sgs_nil))) (sts_nil) (sd_tup (ns_cons (ns_cons ns_nil)) (sar_cons (sd_var 3) (sar_cons (sd_meth _ M_Formula_row B_Formula_row (sd_var 0) (ns_cons ns_nil) (sars_cons (sar_val (sd_var 4)) sars_nil)) sar_nil))) (by decide) (by kernel_rfl) nd)) sods_nil) ok_sortedE (by kernel_rfl) h_sorted (by rfl)))
    (sb_one (ss_ret (sd_make CD_Book B_Book___init__ (ns_cons (ns_cons ns_nil)) (sars_cons (sar_val (sd_bin (sods_cons (sod_val (sd_tup (ns_cons ns_nil) (sar_cons (sd_callTy (ns_cons ns_nil) (sods_cons (sod_val (sd_callTy (ns_cons ns_nil) (sods_cons (sod_val (sd_slH (sods_cons (sod_val (sd_glob (d := .str ("ABCDEFGHIJKLMNOPQRSTUVWXYZ" : Str)) (v := .str ("ABCDEFGHIJKLMNOPQRSTUVWXYZ" : Str)) (by kernel_rfl) g_ALPHABET r_ALPHABET rfl)) (sods_cons (sod_val (sd_fld (sd_var 0) K_Formula N_Formula_prime)) sods_nil)))) sods_nil) ok_listX (by kernel_rfl) h_list (by rfl))) sods_nil) ok_tuple (by kernel_rfl) h_tuple (by rfl)) sar_nil))) (sods_cons (sod_val (sd_fld (sd_var 0) K_Formula N_Formula_places)) sods_nil)) ok_mulY)) (sars_cons (sar_val (sd_callTy (ns_cons ns_nil) (sods_cons (sod_val (sd_var 2)) sods_nil) ok_tuple (by kernel_rfl) h_tuple (by rfl))) sars_nil))))))
abbrev s_l_made : Stmt := topS 43
abbrev N_l_made : List Str := ["_law_rule", "_law_some"]
abbrev P_l_made : List Str := ["_law_rule", "_law_some"]
theorem sc_l_made : FnScope N_l_made P_l_made (defScope s_l_made) := ⟨rfl, rfl, rfl, by decide +kernel, rfl, by decide +kernel, by decide +kernel⟩
def m_l_made (C_Book : Addr) (C_Formula : Addr) : M Fl := sSeq (sIf (mTst (w2b fEq) [mval (mOp (w1 fLen) [mval (mVar 1)]), mval (mC (.int 0))]) (sRet (mCall (starC 1 (c_Formula_book_of C_Book C_Formula)) [aval (mObj C_Formula ("book_of" : Str) (mVar 0))])) (sPass))
  (sSeq (sIf (mTst (w2b fEq) [mval (mOp (w1 fLen) [mval (mVar 1)]), mval (mC (.int 1))]) (sRet (mCall (starC 1 (c_Formula_book_of C_Book C_Formula)) [aval (mObj C_Formula ("book_of" : Str) (mVar 0)), aval (mOp (w2 fIx) [mval (mVar 1), mval (mC (.int 0))])])) (sPass))
  (sSeq (sIf (mTst (w2b fEq) [mval (mOp (w1 fLen) [mval (mVar 1)]), mval (mC (.int 2))]) (sRet (mCall (starC 1 (c_Formula_book_of C_Book C_Formula)) [aval (mObj C_Formula ("book_of" : Str) (mVar 0)), aval (mOp (w2 fIx) [mval (mVar 1), mval (mC (.int 0))]), aval (mOp (w2 fIx) [mval (mVar 1), mval (mC (.int 1))])])) (sPass))
  (sSeq (sIf (mTst (w2b fEq) [mval (mOp (w1 fLen) [mval (mVar 1)]), mval (mC (.int 3))]) (sRet (mCall (starC 1 (c_Formula_book_of C_Book C_Formula)) [aval (mObj C_Formula ("book_of" : Str) (mVar 0)), aval (mOp (w2 fIx) [mval (mVar 1), mval (mC (.int 0))]), aval (mOp (w2 fIx) [mval (mVar 1), mval (mC (.int 1))]), aval (mOp (w2 fIx) [mval (mVar 1), mval (mC (.int 2))])])) (sPass))
  (sSeq (sIf (mTst (w2b fEq) [mval (mOp (w1 fLen) [mval (mVar 1)]), mval (mC (.int 4))]) (sRet (mCall (starC 1 (c_Formula_book_of C_Book C_Formula)) [aval (mObj C_Formula ("book_of" : Str) (mVar 0)), aval (mOp (w2 fIx) [mval (mVar 1), mval (mC (.int 0))]), aval (mOp (w2 fIx) [mval (mVar 1), mval (mC (.int 1))]), aval (mOp (w2 fIx) [mval (mVar 1), mval (mC (.int 2))]), aval (mOp (w2 fIx) [mval (mVar 1), mval (mC (.int 3))])])) (sPass))
  (sRet (mCall (starC 1 (c_Formula_book_of C_Book C_Formula)) [aval (mObj C_Formula ("book_of" : Str) (mVar 0)), aval (mOp (w2 fIx) [mval (mVar 1), mval (mC (.int 0))]), aval (mOp (w2 fIx) [mval (mVar 1), mval (mC (.int 1))]), aval (mOp (w2 fIx) [mval (mVar 1), mval (mC (.int 2))]), aval (mOp (w2 fIx) [mval (mVar 1), mval (mC (.int 3))]), aval (mOp (w2 fIx) [mval (mVar 1), mval (mC (.int 4))])]))))))
def c_l_made (C_Book : Addr) (C_Formula : Addr) : List O → Option (O × List O) := callM [false, false] 0 (m_l_made C_Book C_Formula)
set_option maxHeartbeats 40000000 in
theorem ok_l_made {cfg : Cfg} {a : Addr} {f : FuncData} (F : Fun cfg.K "_law_made" "_law_made" s_l_made a f) {C_Book : Addr} {C_Formula : Addr} {a_Formula_book_of : Addr} (M_Formula_book_of : FnMA cfg 7 C_Formula "book_of" a_Formula_book_of 1 (c_Formula_book_of C_Book C_Formula)) (h_len : cfg.mg "len" = none) : FnG cfg 8 a f P_l_made (spOf cfg.K 2 (c_l_made C_Book C_Formula)) := by
  have nd : (Gm.mk cfg N_l_made (defScope s_l_made).names (fun _ => true) 7 none).N.Nodup := sc_l_made.nd
  exact fn_ok (io := [false, false]) (n := 0) (m := (m_l_made C_Book C_Formula)) F sc_l_made
    (sb_cons (ss_if (sdT_cmp (sods_cons (sod_val (sd_callB (ns_cons ns_nil) (sods_cons (sod_val (sd_var 1)) sods_nil) ok_len (by kernel_rfl) h_len (by rfl))) (sods_cons (sod_val (sd_int)) sods_nil)) ok_eq) (sb_one (ss_ret (sd_methA0 _ M_Formula_book_of (sd_var 0)))) (sb_nil))
    (sb_cons (ss_if (sdT_cmp (sods_cons (sod_val (sd_callB (ns_cons ns_nil) (sods_cons (sod_val (sd_var 1)) sods_nil) ok_len (by kernel_rfl) h_len (by rfl))) (sods_cons (sod_val (sd_int)) sods_nil)) ok_eq) (sb_one (ss_ret (sd_methA _ M_Formula_book_of (sd_var 0) (ns_cons ns_nil) (sars_cons (sar_val (sd_ix (sods_cons (sod_val (sd_var 1)) (sods_cons (sod_val (sd_int)) sods_nil)) ok_ix)) sars_nil)))) (sb_nil))
    (sb_cons (ss_if (sdT_cmp (sods_cons (sod_val (sd_callB (ns_cons ns_nil) (sods_cons (sod_val (sd_var 1)) sods_nil) ok_len (by kernel_rfl) h_len (by rfl))) (sods_cons (sod_val (sd_int)) sods_nil)) ok_eq) (sb_one (ss_ret (sd_methA _ M_Formula_book_of (sd_var 0) (ns_cons (ns_cons ns_nil)) (sars_cons (sar_val (sd_ix (sods_cons (sod_val (sd_var 1)) (sods_cons (sod_val (sd_int)) sods_nil)) ok_ix)) (sars_cons (sar_val (sd_ix (sods_cons (sod_val (sd_var 1)) (sods_cons (sod_val (sd_int)) sods_nil)) ok_ix)) sars_nil))))) (sb_nil))
    (sb_cons (ss_if (sdT_cmp (sods_cons (sod_val (sd_callB (ns_cons ns_nil) (sods_cons (sod_val (sd_var 1)) sods_nil) ok_len (by kernel_rfl) h_len (by rfl))) (sods_cons (sod_val (sd_int)) sods_nil)) ok_eq) (sb_one (ss_ret (sd_methA _ M_Formula_book_of (sd_var 0) (ns_cons (ns_cons (ns_cons ns_nil))) (sars_cons (sar_val (sd_ix (sods_cons (sod_val (sd_var 1)) (sods_cons (sod_val (sd_int)) sods_nil)) ok_ix)) (sars_cons (sar_val (sd_ix (sods_cons (sod_val (sd_var 1)) (sods_cons (sod_val (sd_int)) sods_nil)) ok_ix)) (sars_cons (sar_val (sd_ix (sods_cons (sod_val (sd_var 1)) (sods_cons (sod_val (sd_int)) sods_nil)) ok_ix)) sars_nil)))))) (sb_nil))
    (sb_cons (ss_if (sdT_cmp (sods_cons (sod_val (sd_callB (ns_cons ns_nil) (sods_cons (sod_val (sd_var 1)) sods_nil) ok_len (by kernel_rfl) h_len (by rfl))) (sods_cons (sod_val (sd_int)) sods_nil)) ok_eq) (sb_one (ss_ret (sd_methA _ M_Formula_book_of (sd_var 0) (ns_cons (ns_cons (ns_cons (ns_cons ns_nil)))) (sars_cons (sar_val (sd_ix (sods_cons (sod_val (sd_var 1)) (sods_cons (sod_val (sd_int)) sods_nil)) ok_ix)) (sars_cons (sar_val (sd_ix (sods_cons (sod_val (sd_var 1)) (sods_cons (sod_val (sd_int)) sods_nil)) ok_ix)) (sars_cons (sar_val (sd_ix (sods_cons (sod_val (sd_var 1)) (sods_cons (sod_val (sd_int)) sods_nil)) ok_ix)) (sars_cons (sar_val (sd_ix (sods_cons (sod_val (sd_var 1)) (sods_cons (sod_val (sd_int)) sods_nil)) ok_ix)) sars_nil))))))) (sb_nil))
    (sb_one (ss_ret (sd_methA _ M_Formula_book_of (sd_var 0) (ns_cons (ns_cons (ns_cons (ns_cons (ns_cons ns_nil))))) (sars_cons (sar_val (sd_ix (sods_cons (sod_val (sd_var 1)) (sods_cons (sod_val (sd_int)) sods_nil)) ok_ix)) (sars_cons (sar_val (sd_ix (sods_cons (sod_val (sd_var 1)) (sods_cons (sod_val (sd_int)) sods_nil)) ok_ix)) (sars_cons (sar_val (sd_ix (sods_cons (sod_val (sd_var 1)) (sods_cons (sod_val (sd_int)) sods_nil)) ok_ix)) (sars_cons (sar_val (sd_ix (sods_cons (sod_val (sd_var 1)) (sods_cons (sod_val (sd_int)) sods_nil)) ok_ix)) (sars_cons (sar_val (sd_ix (sods_cons (sod_val (sd_var 1)) (sods_cons (sod_val (sd_int)) sods_nil)) ok_ix)) sars_nil)))))))))))))
theorem b_l_made {K : PySem.W.Frag} {a : Addr} {f : FuncData} (F : Fun K "_law_made" "_law_made" s_l_made a f) : Binds K f P_l_made [] := F.binds fun _ _ _ _ _ _ us hl => match us, hl with | [_, _], _ => rfl
abbrev s_l_book_right : Stmt := topS 44
abbrev N_l_book_right : List Str := ["_law_deck_here", "_law_rule", "_law_shape_here", "_law_some", "_law_p", "_law_width", "_law_k", "_law_left", "_law_named", "_law_turn", "_law_kept", "_law_made_here", "_law_rows", "_law_name", "_law_numbers_here", "_law_spots"]
abbrev P_l_book_right : List Str := ["_law_deck_here", "_law_rule", "_law_shape_here", "_law_some"]
theorem sc_l_book_right : FnScope N_l_book_right P_l_book_right (defScope s_l_book_right) := ⟨rfl, rfl, rfl, by decide +kernel, rfl, by decide +kernel, by decide +kernel⟩
def m_l_book_right (C_Book : Addr) (C_Formula : Addr) : M Fl := sSeq (sTgt (gTpS [gNm 4, gNm 5, gNm 6]) (mVar 2))
  (sSeq (sPar 7 true 8 true (mLst [mC (.str ("b" : Str)), mC (.str ("bb" : Str)), mC (.str ("abcdefgh" : Str)), mC (.str ("zz" : Str)), mC (.str ("ba" : Str))]) (mLst []))
  (sSeq (sFor (iR1 (mCall c_l_draw [aplc' 0, aval (mC (.int 6))])) (gNm 9) (sExpr (mApp 8 (mTup [mPopAt 7 (mCall c_l_draw [aplc' 0, aval (mOp (w1 fLen) [mPl 7])]), mCall c_l_pick [aplc' 0, aval (mVar 3)]]))))
  (sSeq (sPar 10 false 11 false (mOp (w1 fReprN) [mPl 8]) (mCall (c_l_made C_Book C_Formula) [aval (mVar 1), aval (mFz 8)]))
  (sSeq (sSet 12 (mOp (w1 fTuple) [mval (mLc [13, 14] (iSX (mOp (w1 fSortedE) [mPl 8])) (gTpS [gNm 13, gNm 14]) (tYes) (mTup [mVar 13, mCall c_l_row [aval (mVar 4), aval (mVar 5), aval (mVar 14)]]))]))
  (sSeq (sSet 15 (mOp (w2 fMulY) [mval (mTup [mOp (w1 fTuple) [mval (mOp (w1 fListX) [mval (mOp fSlH [mval (mC (.str ("ABCDEFGHIJKLMNOPQRSTUVWXYZ" : Str))), mval (mVar 4)])])]]), mval (mVar 5)]))
  (sSeq (sIf (tOr (mTst (w2b fNe) [mval (mOp (w1 fReprN) [mval (mTup [mFld C_Book ("places" : Str) (mVar 11), mFld C_Book ("copies" : Str) (mVar 11)])]), mval (mOp (w1 fReprN) [mval (mTup [mVar 15, mVar 12])])]) (tNot (mTst truth1 [mval (mIsO C_Book (mVar 11))]))) (sRet (mC (.bl false))) (sPass))
  (sRet (mAnd (mEqV C_Book (c_Book___eq__ C_Book) (mVar 11) (mMake C_Book (c_Book___init__ C_Book) [aval (mVar 15), aval (mVar 12)])) (mAnd (mEqV C_Book (c_Book___eq__ C_Book) (mVar 11) (mCall (c_l_made C_Book C_Formula) [aval (mVar 1), aval (mRev (mFz 8))])) (mOp (bO (w2b fEq)) [mval (mOp (w1 fReprN) [mPl 8]), mval (mVar 10)]))))))))))
def c_l_book_right (C_Book : Addr) (C_Formula : Addr) : List O → Option (O × List O) := callM [true, false, false, false] 12 (m_l_book_right C_Book C_Formula)
set_option maxHeartbeats 40000000 in
theorem ok_l_book_right {cfg : Cfg} {a : Addr} {f : FuncData} (F : Fun cfg.K "_law_book_right" "_law_book_right" s_l_book_right a f) {C_Book : Addr} {C_Formula : Addr} (K_Book : Cls cfg.K C_Book) (N_Book_copies : NoAttr cfg.K C_Book "copies") (N_Book_places : NoAttr cfg.K C_Book "places") {a_Book___eq__ : Addr} {f_Book___eq__ : FuncData} (M_Book___eq__ : FnM cfg 1 C_Book "__eq__" a_Book___eq__ f_Book___eq__ P_Book___eq__ 2 (c_Book___eq__ C_Book)) (B_Book___eq__ : Binds cfg.K f_Book___eq__ P_Book___eq__ []) {a_Book___init__ : Addr} {f_Book___init__ : FuncData} (CD_Book : ClD cfg 5 "Book" C_Book a_Book___init__ f_Book___init__ P_Book___init__ 3 (c_Book___init__ C_Book)) (B_Book___init__ : Binds cfg.K f_Book___init__ P_Book___init__ []) (gC_Book : cfg.mg "Book" = some (.ref C_Book)) (IC_Book : C8.InsC cfg.K C_Book) {a_l_draw : Addr} {f_l_draw : FuncData} (F_l_draw : Fun cfg.K "_law_draw" "_law_draw" s_l_draw a_l_draw f_l_draw) (D_l_draw : FnD cfg 1 "_law_draw" a_l_draw f_l_draw P_l_draw 2 c_l_draw) (B_l_draw : Binds cfg.K f_l_draw P_l_draw []) {a_l_made : Addr} {f_l_made : FuncData} (F_l_made : Fun cfg.K "_law_made" "_law_made" s_l_made a_l_made f_l_made) (D_l_made : FnD cfg 8 "_law_made" a_l_made f_l_made P_l_made 2 (c_l_made C_Book C_Formula)) (B_l_made : Binds cfg.K f_l_made P_l_made []) {a_l_pick : Addr} {f_l_pick : FuncData} (F_l_pick : Fun cfg.K "_law_pick" "_law_pick" s_l_pick a_l_pick f_l_pick) (D_l_pick : FnD cfg 2 "_law_pick" a_l_pick f_l_pick P_l_pick 2 c_l_pick) (B_l_pick : Binds cfg.K f_l_pick P_l_pick []) {a_l_row : Addr} {f_l_row : FuncData} (F_l_row : Fun cfg.K "_law_row" "_law_row" s_l_row a_l_row f_l_row) (D_l_row : FnD cfg 1 "_law_row" a_l_row f_l_row P_l_row 3 c_l_row) (B_l_row : Binds cfg.K f_l_row P_l_row []) (h_isinstance : cfg.mg "isinstance" = none) (h_len : cfg.mg "len" = none) (h_list : cfg.mg "list" = none) (h_range : cfg.mg "range" = none) (h_repr : cfg.mg "repr" = none) (h_sorted : cfg.mg "sorted" = none) (h_tuple : cfg.mg "tuple" = none) : FnG cfg 9 a f P_l_book_right (spOf cfg.K 4 (c_l_book_right C_Book C_Formula)) := by
  have nd : (Gm.mk cfg N_l_book_right (defScope s_l_book_right).names (fun _ => true) 8 none).N.Nodup := sc_l_book_right.nd
  exact fn_ok (io := [true, false, false, false]) (n := 12) (m := (m_l_book_right C_Book C_Formula)) F sc_l_book_right
    (sb_cons (ss_tgt (sd_var 2) (sg_tpS (sgs_cons (sg_nm 4) (sgs_cons (sg_nm 5) (sgs_cons (sg_nm 6) sgs_nil)))) (hs := by rintro ⟨⟨_, _, _, _, _⟩, _, _, _, _, _, _, _, _⟩ rfl; rfl) (hw := by rintro ⟨⟨_, _, _, _, _⟩, _, _, _, _, _, _, _, _⟩ rfl; first | rfl | (simp [swappedStores]; done)))
    (sb_cons (ss_par 7 true 8 true (ns_cons (ns_cons ns_nil)) (sar_cons (sd_lst (ns_cons (ns_cons (ns_cons (ns_cons (ns_cons ns_nil))))) (sar_cons (sd_str) (sar_cons (sd_str) (sar_cons (sd_str) (sar_cons (sd_str) (sar_cons (sd_str) sar_nil)))))) (sar_cons (sd_lst ns_nil sar_nil) sar_nil)))
    (sb_cons (ss_for (si_r1 (sd_call D_l_draw B_l_draw (ns_cons (ns_cons ns_nil)) (sars_cons (sar_plc 0) (sars_cons (sar_val (sd_int)) sars_nil))) (by kernel_rfl) h_range) (sg_nm 9) (sb_one (ss_expr (sd_app 8 (sd_tup (ns_cons (ns_cons ns_nil)) (sar_cons (sd_popAt 7 (sd_call D_l_draw B_l_draw (ns_cons (ns_cons ns_nil)) (sars_cons (sar_plc 0) (sars_cons (sar_val (sd_callB (ns_cons ns_nil) (sods_cons (sod_pl 7) sods_nil) ok_len (by kernel_rfl) h_len (by rfl))) sars_nil)))) (sar_cons (sd_call D_l_pick B_l_pick (ns_cons (ns_cons ns_nil)) (sars_cons (sar_plc 0) (sars_cons (sar_val (sd_var 3)) sars_nil))) sar_nil)))))))
    (sb_cons (ss_par 10 false 11 false (ns_cons (ns_cons ns_nil)) (sar_cons (sd_callB (ns_cons ns_nil) (sods_cons (sod_pl 8) sods_nil) ok_reprN (by kernel_rfl) h_repr (by rfl)) (sar_cons (sd_call D_l_made B_l_made (ns_cons (ns_cons ns_nil)) (sars_cons (sar_val (sd_var 1)) (sars_cons (sar_val (sd_fz 8)) sars_nil))) sar_nil)))
    (sb_cons (ss_set 12 (sd_callTy (ns_cons ns_nil) (sods_cons (sod_val (sd_lc (own := [(("_law_name" : Str), 13), (("_law_numbers_here" : Str), 14)]) (si_seqX (sd_callB (ns_cons ns_nil) (sods_cons (sod_pl 8) sods_nil) ok_sortedE (by kernel_rfl) h_sorted (by rfl))) rfl (sg_tpS (sgs_cons (sg_nm 13) (sgs_cons (sg_nm 14) sgs_nil))) (sts_nil) (sd_tup (ns_cons (ns_cons ns_nil)) (sar_cons (sd_var 13) (sar_cons (sd_call D_l_row B_l_row (ns_cons (ns_cons (ns_cons ns_nil))) (sars_cons (sar_val (sd_var 4)) (sars_cons (sar_val (sd_var 5)) (sars_cons (sar_val (sd_var 14)) sars_nil)))) sar_nil))) (by decide) (by kernel_rfl) nd)) sods_nil) ok_tuple (by kernel_rfl) h_tuple (by rfl)))
    (sb_cons (ss_set 15 (sd_bin (sods_cons (sod_val (sd_tup (ns_cons ns_nil) (sar_cons (sd_callTy (ns_cons ns_nil) (sods_cons (sod_val (sd_callTy (ns_cons ns_nil) (sods_cons (sod_val (sd_slH (sods_cons (sod_val (sd_str)) (sods_cons (sod_val (sd_var 4)) sods_nil)))) sods_nil) ok_listX (by kernel_rfl) h_list (by rfl))) sods_nil) ok_tuple (by kernel_rfl) h_tuple (by rfl)) sar_nil))) (sods_cons (sod_val (sd_var 5)) sods_nil)) ok_mulY))
    (sb_cons (ss_if (sdT_w (sdW_or (sdT_cmp (sods_cons (sod_val (sd_callB (ns_cons ns_nil) (sods_cons (sod_val (sd_tup (ns_cons (ns_cons ns_nil)) (sar_cons (sd_fld (sd_var 11) K_Book N_Book_places) (sar_cons (sd_fld (sd_var 11) K_Book N_Book_copies) sar_nil)))) sods_nil) ok_reprN (by kernel_rfl) h_repr (by rfl))) (sods_cons (sod_val (sd_callB (ns_cons ns_nil) (sods_cons (sod_val (sd_tup (ns_cons (ns_cons ns_nil)) (sar_cons (sd_var 15) (sar_cons (sd_var 12) sar_nil)))) sods_nil) ok_reprN (by kernel_rfl) h_repr (by rfl))) sods_nil)) ok_ne) (sdW_or1 (sdT_not (sdT_tr (sod_val (sd_isO (sd_var 11) (by kernel_rfl) h_isinstance (by kernel_rfl) gC_Book IC_Book))))))) (sb_one (ss_ret (sd_bl))) (sb_nil))
    (sb_one (ss_ret (sd_and (sd_eqV M_Book___eq__ B_Book___eq__ (sd_var 11) (sd_make CD_Book B_Book___init__ (ns_cons (ns_cons ns_nil)) (sars_cons (sar_val (sd_var 15)) (sars_cons (sar_val (sd_var 12)) sars_nil)))) (sd_and (sd_eqV M_Book___eq__ B_Book___eq__ (sd_var 11) (sd_call D_l_made B_l_made (ns_cons (ns_cons ns_nil)) (sars_cons (sar_val (sd_var 1)) (sars_cons (sar_val (sd_rev (sd_fz 8))) sars_nil)))) (sd_one (sd_cmp (sods_cons (sod_val (sd_callB (ns_cons ns_nil) (sods_cons (sod_pl 8) sods_nil) ok_reprN (by kernel_rfl) h_repr (by rfl))) (sods_cons (sod_val (sd_var 10)) sods_nil)) ok_eq)))))))))))))
theorem b_l_book_right {K : PySem.W.Frag} {a : Addr} {f : FuncData} (F : Fun K "_law_book_right" "_law_book_right" s_l_book_right a f) : Binds K f P_l_book_right [] := F.binds fun _ _ _ _ _ _ us hl => match us, hl with | [_, _, _, _], _ => rfl
abbrev s_law : Stmt := topS 45
abbrev N_law : List Str := ["_law_script", "_law_deck_here", "_law_turn", "_law_shape_here", "_law_rules", "_law_some", "_law_rule"]
abbrev P_law : List Str := ["_law_script"]
theorem sc_law : FnScope N_law P_law (defScope s_law) := ⟨rfl, rfl, rfl, by decide +kernel, rfl, by decide +kernel, by decide +kernel⟩
def m_law (C_Book : Addr) (C_Formula : Addr) : M Fl := sSeq (sSetO 1 (mCall c_l_deck [aval (mVar 0)]))
  (sSeq (sFor (iR1 (mC (.int 6))) (gNm 2) (sSeq (sSet 3 (mCall c_l_shape [aplc' 1, aval (mVar 2)]))
  (sSeq (sSet 4 (mLst [mMake C_Formula (c_Formula___init__ C_Formula) [aval (mOp (w2 fIx) [mval (mVar 3), mval (mC (.int 0))]), aval (mOp (w2 fIx) [mval (mVar 3), mval (mC (.int 1))]), aval (mOp (w2 fIx) [mval (mVar 3), mval (mC (.int 2))])], mMake C_Formula (permF [0, 2, 3, 1] [0, 3, 1, 2] (c_Formula___init__ C_Formula)) [aval (mOp (w2 fIx) [mval (mVar 3), mval (mC (.int 2))]), aval (mOp (w2 fIx) [mval (mVar 3), mval (mC (.int 0))]), aval (mOp (w2 fIx) [mval (mVar 3), mval (mC (.int 1))])]]))
  (sSeq (sSet 5 (mCall c_l_lists [aplc' 1, aval (mOp (w2 fIx) [mval (mVar 3), mval (mC (.int 0))]), aval (mOp (w2 fIx) [mval (mVar 3), mval (mC (.int 2))])]))
  (sFor (iSX (mVar 4)) (gNm 6) (sSeq (sIf (tOr (tNot (mTst truth1 [mval (mCall (c_l_rows_right C_Formula) [aval (mVar 6), aval (mVar 3), aval (mVar 5)])])) (tNot (mTst truth1 [mval (mCall (c_l_book_right C_Book C_Formula) [aplc' 1, aval (mVar 6), aval (mVar 3), aval (mVar 5)])]))) (sRet (mC (.bl false))) (sPass))
  (sIf (mTst (w2b fNe) [mval (mOp (w1 fReprN) [mval (mTup [mFld C_Formula ("prime" : Str) (mVar 6), mFld C_Formula ("places" : Str) (mVar 6), mFld C_Formula ("size" : Str) (mVar 6)])]), mval (mOp (w1 fReprN) [mval (mVar 3)])]) (sRet (mC (.bl false))) (sPass))))))))
  (sRet (mC (.bl true))))
def c_law (C_Book : Addr) (C_Formula : Addr) : List O → Option (O × List O) := callM [false] 6 (m_law C_Book C_Formula)
set_option maxHeartbeats 40000000 in
theorem ok_law {cfg : Cfg} {a : Addr} {f : FuncData} (F : Fun cfg.K "law" "law" s_law a f) {C_Book : Addr} {C_Formula : Addr} (K_Formula : Cls cfg.K C_Formula) (N_Formula_places : NoAttr cfg.K C_Formula "places") (N_Formula_prime : NoAttr cfg.K C_Formula "prime") (N_Formula_size : NoAttr cfg.K C_Formula "size") {a_Formula___init__ : Addr} {f_Formula___init__ : FuncData} (CD_Formula : ClD cfg 1 "Formula" C_Formula a_Formula___init__ f_Formula___init__ P_Formula___init__ 4 (c_Formula___init__ C_Formula)) (B_Formula___init__ : Binds cfg.K f_Formula___init__ P_Formula___init__ []) (F_Formula___init__ : Fun cfg.K "__init__" "Formula.__init__" s_Formula___init__ a_Formula___init__ f_Formula___init__) {a_l_book_right : Addr} {f_l_book_right : FuncData} (F_l_book_right : Fun cfg.K "_law_book_right" "_law_book_right" s_l_book_right a_l_book_right f_l_book_right) (D_l_book_right : FnD cfg 9 "_law_book_right" a_l_book_right f_l_book_right P_l_book_right 4 (c_l_book_right C_Book C_Formula)) (B_l_book_right : Binds cfg.K f_l_book_right P_l_book_right []) {a_l_deck : Addr} {f_l_deck : FuncData} (F_l_deck : Fun cfg.K "_law_deck" "_law_deck" s_l_deck a_l_deck f_l_deck) (D_l_deck : FnD cfg 1 "_law_deck" a_l_deck f_l_deck P_l_deck 1 c_l_deck) (B_l_deck : Binds cfg.K f_l_deck P_l_deck []) {a_l_lists : Addr} {f_l_lists : FuncData} (F_l_lists : Fun cfg.K "_law_lists" "_law_lists" s_l_lists a_l_lists f_l_lists) (D_l_lists : FnD cfg 3 "_law_lists" a_l_lists f_l_lists P_l_lists 3 c_l_lists) (B_l_lists : Binds cfg.K f_l_lists P_l_lists []) {a_l_rows_right : Addr} {f_l_rows_right : FuncData} (F_l_rows_right : Fun cfg.K "_law_rows_right" "_law_rows_right" s_l_rows_right a_l_rows_right f_l_rows_right) (D_l_rows_right : FnD cfg 3 "_law_rows_right" a_l_rows_right f_l_rows_right P_l_rows_right 3 (c_l_rows_right C_Formula)) (B_l_rows_right : Binds cfg.K f_l_rows_right P_l_rows_right []) {a_l_shape : Addr} {f_l_shape : FuncData} (F_l_shape : Fun cfg.K "_law_shape" "_law_shape" s_l_shape a_l_shape f_l_shape) (D_l_shape : FnD cfg 3 "_law_shape" a_l_shape f_l_shape P_l_shape 2 c_l_shape) (B_l_shape : Binds cfg.K f_l_shape P_l_shape []) (h_range : cfg.mg "range" = none) (h_repr : cfg.mg "repr" = none) : FnG cfg 10 a f P_law (spOf cfg.K 1 (c_law C_Book C_Formula)) := by
  have nd : (Gm.mk cfg N_law (defScope s_law).names (fun _ => true) 9 none).N.Nodup := sc_law.nd
  exact fn_ok (io := [false]) (n := 6) (m := (m_law C_Book C_Formula)) F sc_law
    (sb_cons (ss_setO 1 (sd_call D_l_deck B_l_deck (ns_cons ns_nil) (sars_cons (sar_val (sd_var 0)) sars_nil)))
    (sb_cons (ss_for (si_r1 (sd_int) (by kernel_rfl) h_range) (sg_nm 2) (sb_cons (ss_set 3 (sd_call D_l_shape B_l_shape (ns_cons (ns_cons ns_nil)) (sars_cons (sar_plc 1) (sars_cons (sar_val (sd_var 2)) sars_nil))))
    (sb_cons (ss_set 4 (sd_lst (ns_cons (ns_cons ns_nil)) (sar_cons (sd_make CD_Formula B_Formula___init__ (ns_cons (ns_cons (ns_cons ns_nil))) (sars_cons (sar_val (sd_ix (sods_cons (sod_val (sd_var 3)) (sods_cons (sod_val (sd_int)) sods_nil)) ok_ix)) (sars_cons (sar_val (sd_ix (sods_cons (sod_val (sd_var 3)) (sods_cons (sod_val (sd_int)) sods_nil)) ok_ix)) (sars_cons (sar_val (sd_ix (sods_cons (sod_val (sd_var 3)) (sods_cons (sod_val (sd_int)) sods_nil)) ok_ix)) sars_nil)))) (sar_cons (sd_makeK0 CD_Formula (ord_of (π := [0, 2, 3, 1]) (ρ := [0, 3, 1, 2]) (by decide +kernel)) (kb_Formula___init___1_size_prime_places F_Formula___init__) (sars_cons (sar_val (sd_ix (sods_cons (sod_val (sd_var 3)) (sods_cons (sod_val (sd_int)) sods_nil)) ok_ix)) (sars_cons (sar_val (sd_ix (sods_cons (sod_val (sd_var 3)) (sods_cons (sod_val (sd_int)) sods_nil)) ok_ix)) (sars_cons (sar_val (sd_ix (sods_cons (sod_val (sd_var 3)) (sods_cons (sod_val (sd_int)) sods_nil)) ok_ix)) sars_nil)))) sar_nil))))
    (sb_cons (ss_set 5 (sd_call D_l_lists B_l_lists (ns_cons (ns_cons (ns_cons ns_nil))) (sars_cons (sar_plc 1) (sars_cons (sar_val (sd_ix (sods_cons (sod_val (sd_var 3)) (sods_cons (sod_val (sd_int)) sods_nil)) ok_ix)) (sars_cons (sar_val (sd_ix (sods_cons (sod_val (sd_var 3)) (sods_cons (sod_val (sd_int)) sods_nil)) ok_ix)) sars_nil)))))
    (sb_one (ss_for (si_seqX (sd_var 4)) (sg_nm 6) (sb_cons (ss_if (sdT_w (sdW_or (sdT_not (sdT_tr (sod_val (sd_call D_l_rows_right B_l_rows_right (ns_cons (ns_cons (ns_cons ns_nil))) (sars_cons (sar_val (sd_var 6)) (sars_cons (sar_val (sd_var 3)) (sars_cons (sar_val (sd_var 5)) sars_nil))))))) (sdW_or1 (sdT_not (sdT_tr (sod_val (sd_call D_l_book_right B_l_book_right (ns_cons (ns_cons (ns_cons (ns_cons ns_nil)))) (sars_cons (sar_plc 1) (sars_cons (sar_val (sd_var 6)) (sars_cons (sar_val (sd_var 3)) (sars_cons (sar_val (sd_var 5)) sars_nil))))))))))) (sb_one (ss_ret (sd_bl))) (sb_nil))
    (sb_one (ss_if (sdT_cmp (sods_cons (sod_val (sd_callB (ns_cons ns_nil) (sods_cons (sod_val (sd_tup (ns_cons (ns_cons (ns_cons ns_nil))) (sar_cons (sd_fld (sd_var 6) K_Formula N_Formula_prime) (sar_cons (sd_fld (sd_var 6) K_Formula N_Formula_places) (sar_cons (sd_fld (sd_var 6) K_Formula N_Formula_size) sar_nil))))) sods_nil) ok_reprN (by kernel_rfl) h_repr (by rfl))) (sods_cons (sod_val (sd_callB (ns_cons ns_nil) (sods_cons (sod_val (sd_var 3)) sods_nil) ok_reprN (by kernel_rfl) h_repr (by rfl))) sods_nil)) ok_ne) (sb_one (ss_ret (sd_bl))) (sb_nil))))))))))
    (sb_one (ss_ret (sd_bl)))))
end K39
set_option Elab.async false
set_option linter.all false
set_option maxRecDepth 100000
set_option maxHeartbeats 4000000
namespace K39
open PySem PySem.Spec PyProof.Rows L2 BM
local macro_rules
  | `(tactic| simp_arith [$xs,*]) => `(tactic| simp -implicitDefEqProofs only [↓e_gen, ↓ob_some, ↓oo_some, ↓vr_some, ↓sl_some, ↓al_some, ↓fk_nx, ↓fk_bk, ↓fk_ct, ↓fk_rt, ↓lk_nx, ↓lk_bk, ↓lk_ct, ↓lk_rt, ↓rk_nx, ↓rk_rt, ↓ifk_t, ↓ifk_f, ↓rg1_int, ↓e_pure, ↓e_bind, ↓e_var, ↓e_fz, ↓e_mv, ↓e_C, ↓e_val, ↓e_pl, ↓e_mods0, ↓e_mods, ↓e_get0, ↓e_get, ↓e_getV, ↓e_getP, ↓e_flatD, ↓e_flatL, ↓leafs_leaf, ↓e_leafs0, ↓e_leafsD, ↓e_ops, ↓e_op, ↓e_tst, ↓e_bO, ↓e_w1, ↓e_w2, ↓e_w1b, ↓e_w2b, ↓e_truth1, ↓e_truthB, ↓e_truthI, ↓e_truthN, ↓e_truthL, ↓e_truthT, ↓e_args0, ↓e_args, ↓e_tup, ↓e_lst, ↓e_if, ↓e_sif, ↓e_or, ↓e_and, ↓e_not, ↓e_mnot, ↓e_yes, ↓e_mor, ↓e_mand, ↓e_mset, ↓e_set, ↓e_setO, ↓e_expr, ↓e_ret, ↓e_retN, ↓e_pass, ↓e_break, ↓e_cont, ↓e_seq, ↓e_gNm, ↓e_gTs0, ↓e_gTs, ↓e_gTp, ↓e_gTpST, ↓e_gTpSL, ↓e_tgt, ↓e_sfor, ↓e_for0, ↓e_for, ↓e_wipe0, ↓e_wipe, ↓e_iS, ↓e_listT, ↓e_listL, ↓e_iR1, ↓e_rev, ↓e_aval, ↓e_aplc, ↓e_mars0, ↓e_mars, ↓e_take0, ↓e_takeV, ↓e_takeP, ↓e_give0, ↓e_giveV, ↓e_giveP, ↓e_call, ↓e_callM, ↓e_in0, ↓e_inT, ↓e_inF, ↓e_outs0, ↓e_outsT, ↓e_outsF, ↓e_permF, ↓e_permL0, ↓e_permL, ↓pcons_some, ↓e_app, ↓e_msetB0, ↓e_msetB1, ↓e_par, ↓e_par3, ↓e_fld, ↓e_obj, ↓e_make, ↓mkK_ok, ↓e_enA, ↓e_rv, ↓e_dctS, ↓e_lrg, ↓e_isi, ↓e_upper, ↓e_revX, ↓revX_t, ↓e_iSX, ↓e_dct0, ↓e_chn, ↓chK_eq, ↓e_zipS, ↓e_zipL, ↓e_zipV, ↓e_fr, ↓e_zipT, ↓e_lower, ↓e_seqL, ↓e_seqT, ↓e_seqS, ↓e_fListXL, ↓e_fListXT, ↓e_join2, ↓joinK_str, ↓e_join, e_fEqZT, e_fEqZL, e_fNeZT, e_fNeZL, e_toD, e_toL, toDs_leaf, e_toDs0, e_toDs, e_fAddI, e_fSubI,  e_fLtI, e_fLeI, e_fGtI, e_fGeI, e_fEqI, e_fEqS, e_fEqB, ↓e_fNe, ↓e_fNotIn, ↓e_fIsN, e_fLenL, e_fLenT, e_fListL, e_fListT, e_fTupL, e_fTupT, e_fMin, e_fMax, e_fNegI,
      List.getElem?_cons_succ, List.getElem?_cons_zero, List.set_cons_succ, List.set_cons_zero, List.length_cons, List.length_nil, List.replicate_succ, List.replicate_zero, List.cons_append, List.nil_append, Nat.reduceAdd, Nat.reduceLT, Nat.reduceEqDiff, if_true, if_false, and_self, ite_true, ite_false, Bool.false_eq_true, Bool.not_true, Bool.not_false, Bool.or_true, Bool.true_or, decide_true, decide_false, eq_self, $xs,*])
abbrev dkeys : List D := [.str ("cells" : Str), .str ("total" : Str), .str ("draws" : Str)]
abbrev dk (cs : List Int) (mx n : Int) : O := .dct dkeys [.lst (leaf (cs.map D.int)), .d (.int mx), .d (.int n)]
def Deck (n : Nat) (o : O) : Prop := ∃ (cs : List Int) (mx : Int), cs.length ≤ 63 ∧ o = dk cs mx n
theorem ix_cells : idxKey (.str ("cells" : Str)) dkeys = some 0 := by decide +kernel
theorem ix_total : idxKey (.str ("total" : Str)) dkeys = some 1 := by decide +kernel
theorem ix_draws : idxKey (.str ("draws" : Str)) dkeys = some 2 := by decide +kernel
theorem once_draws : onceK (.str ("draws" : Str)) dkeys = true := by decide +kernel
section
variable {cs : List Int} {mx n : Int} {r r' : BM.Env}
theorem d_draws : mGetD 0 ("draws" : Str) (some (dk cs mx n) :: r) = some (.d (.int n), some (dk cs mx n) :: r) := by
  unfold mGetD; simp only [List.getElem?_cons_zero, ix_draws, List.getElem?_cons_succ]
theorem d_total : mGetD 0 ("total" : Str) (some (dk cs mx n) :: r) = some (.d (.int mx), some (dk cs mx n) :: r) := by
  unfold mGetD; simp only [List.getElem?_cons_zero, ix_total, List.getElem?_cons_succ]
theorem d_set {q : Int} {me : M O} (hm : me (some (dk cs mx n) :: r) = some (.d (.int q), some (dk cs mx n) :: r)) : sSetD 0 ("draws" : Str) me (some (dk cs mx n) :: r) = some (.nx, some (dk cs mx q) :: r) := by
  unfold sSetD
  simp only [hm, List.getElem?_cons_zero, ix_draws, once_draws]
  rw [if_pos ⟨trivial, by show 3 < sizeLine; decide⟩]
  rfl
theorem kid_cells {x : Option O} (h : x = some (dk cs mx n)) : kidD ("cells" : Str) (some x) = some (0, dkeys, [.lst (leaf (cs.map D.int)), .d (.int mx), .d (.int n)], leaf (cs.map D.int)) := by
  subst h
  unfold kidD
  simp only [ix_cells, List.getElem?_cons_zero]
theorem all_ints (cs : List Int) : (cs.map D.int).all isInt = true := by
  rw [List.all_map, List.all_eq_true]; intro x _; rfl
theorem d_ne : tKidNeD 0 ("cells" : Str) (some (dk cs mx n) :: r) = some (!cs.isEmpty, some (dk cs mx n) :: r) := by
  unfold tKidNeD
  rw [List.getElem?_cons_zero, kid_cells rfl]
  simp only [leafs_leaf, all_ints, if_true]
  cases cs <;> rfl
theorem d_pop {c : Int} : mKidPopD 0 ("cells" : Str) (some (dk (cs ++ [c]) mx n) :: r) = some (.d (.int c), some (dk cs mx n) :: r) := by
  unfold mKidPopD
  rw [List.getElem?_cons_zero, kid_cells rfl]
  simp [leaf]
theorem d_app {q : Int} {me : M O} (hm : me (none :: r) = some (.d (.int q), none :: r')) (hl : cs.length ≤ 63) : mKidAppD 0 ("cells" : Str) me (some (dk cs mx n) :: r) = some (.d .non, some (dk (cs ++ [q]) mx n) :: r') := by
  unfold mKidAppD
  rw [List.getElem?_cons_zero, kid_cells rfl]
  simp only [List.set_cons_zero, hm]
  rw [if_pos ⟨by rw [List.length_map, List.length_map, sizeLine_eq]; omega, by simp⟩]
  simp [leaf]
end
def lastV (c t : Int) : Int := (((c % 2147483629 + 60037 * t * t + 43) * 40692 % 2147483647) * ((c % 2147483629 + 60037 * t * t + 43) * 40692 % 2147483647) + 69661 * t + 17) % 2147483587 * 39373 % 2147483563 / 64
theorem fPow18 : fPow (.int 10) (.int 18) = some (.d (.int 1000000000000000000)) := rfl
theorem r_draw {n : Nat} {deck : O} {many : Nat} (h : Deck n deck) (hm : 0 < many ∧ many < 1073741824) (hn : n < 2 ^ 39) : ∃ (v : Nat) (deck' : O), c_l_draw [deck, .d (.int many)] = some (.d (.int v), [deck', .d (.int many)]) ∧ Deck (n + 1) deck' ∧ v < many := by
  obtain ⟨cs, mx, hl, rfl⟩ := h
  have hp : (0 : Int) < many := by omega
  have key : ∀ (z : Int) (dk' : O), c_l_draw [dk cs mx n, .d (.int many)] = some (.d (.int (z % many)), [dk', .d (.int many)]) → Deck (n + 1) dk' → ∃ (v : Nat) (deck' : O), c_l_draw [dk cs mx n, .d (.int many)] = some (.d (.int v), [deck', .d (.int many)]) ∧ Deck (n + 1) deck' ∧ v < many := fun z dk' e d => by
    have h1 := Int.emod_nonneg z (by omega : (many : Int) ≠ 0)
    have h2 := Int.emod_lt_of_pos z hp
    refine ⟨(z % many).toNat, dk', ?_, d, by omega⟩
    rw [e, Int.toNat_of_nonneg h1]
  have t1 : sm64 ((n : Int) + 1) = true := sm_of (by omega) (by omega)
  have c1 : sm64 60037 = true := by decide
  have c2 : sm64 40692 = true := by decide
  have c3 : sm64 69661 = true := by decide
  have c4 : sm64 39373 = true := by decide
  have m1 : ∀ a : Int, sm64 (a % 2147483647) = true := fun a => sm_mod (by decide) (by decide)
  have p1 : (0 : Int) < 2147483629 := by decide
  have p2 : (0 : Int) < 2147483647 := by decide
  have p3 : (0 : Int) < 2147483587 := by decide
  have p4 : (0 : Int) < 2147483563 := by decide
  have p5 : (0 : Int) < 64 ∧ (64 : Int) < 1073741824 := by decide
  have p6 : (0 : Int) < many ∧ (many : Int) < 1073741824 := by omega
  rcases List.eq_nil_or_concat cs with e | ⟨cs', c, e⟩
  · subst e
    refine key (lastV mx (n + 1)) (dk [] mx ((n + 1 : Nat) : Int)) ?_ ⟨[], mx, hl, rfl⟩
    have s1 : sSetD 0 ("draws" : Str) (mVar 2) [some (dk [] mx n), some (.d (.int many)), some (.d (.int (n + 1))), some (.d (.int mx)), none] = some (.nx, [some (dk [] mx (n + 1)), some (.d (.int many)), some (.d (.int (n + 1))), some (.d (.int mx)), none]) := d_set rfl
    simp_arith [c_l_draw, m_l_draw, d_draws, d_total, s1, d_ne, List.isEmpty_nil, fMod_p p1, fMod_p p2, fMod_p p3, fMod_p p4, fMod_p hp, fDiv_p p5, fMul_l c1, fMul_r t1, fMul_r c2, fMul_l c3, fMul_r c4, fMul_r (m1 _), lastV, Int.natCast_add, Int.natCast_one]
  · subst e
    rw [List.concat_eq_append] at *
    have hl' : cs'.length ≤ 63 := by simp at hl; omega
    have ne : (!(cs' ++ [c]).isEmpty) = true := by simp
    have s1 : sSetD 0 ("draws" : Str) (mVar 2) [some (dk (cs' ++ [c]) mx n), some (.d (.int many)), some (.d (.int (n + 1))), some (.d (.int mx)), none] = some (.nx, [some (dk (cs' ++ [c]) mx (n + 1)), some (.d (.int many)), some (.d (.int (n + 1))), some (.d (.int mx)), none]) := d_set rfl
    by_cases hc : (1000000000000000000 : Int) ≤ c
    · refine key c (dk (cs' ++ [c / many]) mx ((n + 1 : Nat) : Int)) ?_ ⟨cs' ++ [c / many], mx, by simpa using hl, rfl⟩
      have s2 : mKidAppD 0 ("cells" : Str) (mOp (w2 fDiv) [mval (mVar 3), mval (mVar 1)]) [some (dk cs' mx (n + 1)), some (.d (.int many)), some (.d (.int (n + 1))), some (.d (.int c)), none] = some (.d .non, [some (dk (cs' ++ [c / many]) mx (n + 1)), some (.d (.int many)), some (.d (.int (n + 1))), some (.d (.int c)), none]) :=
        d_app (by simp_arith [fDiv_p p6]) hl'
      simp_arith [c_l_draw, m_l_draw, d_draws, d_total, s1, d_ne, ne, d_pop, fPow18, decide_eq_true hc, s2, fMod_p hp, Int.natCast_add, Int.natCast_one]
    · refine key (lastV (c + mx) (n + 1)) (dk cs' mx ((n + 1 : Nat) : Int)) ?_ ⟨cs', mx, hl', rfl⟩
      simp_arith [c_l_draw, m_l_draw, d_draws, d_total, s1, d_ne, ne, d_pop, fPow18, decide_eq_false hc, fMod_p p1, fMod_p p2, fMod_p p3, fMod_p p4, fMod_p hp, fDiv_p p5, fMul_l c1, fMul_r t1, fMul_r c2, fMul_l c3, fMul_r c4, fMul_r (m1 _), lastV, Int.natCast_add, Int.natCast_one]
end K39
set_option Elab.async false
set_option linter.all false
set_option maxRecDepth 100000
set_option maxHeartbeats 4000000
namespace K39
open PySem PySem.Spec PyProof.Rows L2 BM
local macro_rules
  | `(tactic| simp_arith [$xs,*]) => `(tactic| simp -implicitDefEqProofs only [↓e_gen, ↓e_lc, ↓e_lcL0, ↓e_lcL, ↓ob_some, ↓oo_some, ↓vr_some, ↓sl_some, ↓al_some, ↓fk_nx, ↓fk_bk, ↓fk_ct, ↓fk_rt, ↓lk_nx, ↓lk_bk, ↓lk_ct, ↓lk_rt, ↓rk_nx, ↓rk_rt, ↓ifk_t, ↓ifk_f, ↓rg1_int, ↓e_pure, ↓e_bind, ↓e_var, ↓e_fz, ↓e_mv, ↓e_C, ↓e_val, ↓e_pl, ↓e_mods0, ↓e_mods, ↓e_get0, ↓e_get, ↓e_getV, ↓e_getP, ↓e_flatD, ↓e_flatL, ↓leafs_leaf, ↓e_leafs0, ↓e_leafsD, ↓e_ops, ↓e_op, ↓e_tst, ↓e_bO, ↓e_w1, ↓e_w2, ↓e_w1b, ↓e_w2b, ↓e_truth1, ↓e_truthB, ↓e_truthI, ↓e_truthN, ↓e_truthL, ↓e_truthT, ↓e_args0, ↓e_args, ↓e_tup, ↓e_lst, ↓e_if, ↓e_sif, ↓e_or, ↓e_and, ↓e_not, ↓e_mnot, ↓e_yes, ↓e_mor, ↓e_mand, ↓e_mset, ↓e_set, ↓e_setO, ↓e_expr, ↓e_ret, ↓e_retN, ↓e_pass, ↓e_break, ↓e_cont, ↓e_seq, ↓e_gNm, ↓e_gTs0, ↓e_gTs, ↓e_gTp, ↓e_gTpST, ↓e_gTpSL, ↓e_tgt, ↓e_sfor, ↓e_for0, ↓e_for, ↓e_wipe0, ↓e_wipe, ↓e_iS, ↓e_listT, ↓e_listL, ↓e_iR1, ↓e_rev, ↓e_aval, ↓e_aplc, ↓e_mars0, ↓e_mars, ↓e_take0, ↓e_takeV, ↓e_takeP, ↓e_give0, ↓e_giveV, ↓e_giveP, ↓e_call, ↓e_callM, ↓e_in0, ↓e_inT, ↓e_inF, ↓e_outs0, ↓e_outsT, ↓e_outsF, ↓e_permF, ↓e_permL0, ↓e_permL, ↓pcons_some, ↓e_app, ↓e_msetB0, ↓e_msetB1, ↓e_par, ↓e_par3, ↓e_fld, ↓e_obj, ↓e_make, ↓mkK_ok, ↓e_enA, ↓e_rv, ↓e_dctS, ↓e_lrg, ↓e_isi, ↓e_upper, ↓e_revX, ↓revX_t, ↓e_iSX, ↓e_dct0, ↓e_chn, ↓chK_eq, ↓e_zipS, ↓e_zipL, ↓e_zipV, ↓e_fr, ↓e_zipT, ↓e_lower, ↓e_seqL, ↓e_seqT, ↓e_seqS, ↓e_fListXL, ↓e_fListXT, ↓e_join2, ↓joinK_str, ↓e_join, e_fEqZT, e_fEqZL, e_fNeZT, e_fNeZL, e_toD, e_toL, toDs_leaf, e_toDs0, e_toDs, e_fAddI, e_fSubI,  e_fLtI, e_fLeI, e_fGtI, e_fGeI, e_fEqI, e_fEqS, e_fEqB, ↓e_fNe, ↓e_fNotIn, ↓e_fIsN, e_fLenL, e_fLenT, e_fListL, e_fListT, e_fTupL, e_fTupT, e_fMin, e_fMax, e_fNegI,
      List.getElem?_cons_succ, List.getElem?_cons_zero, List.set_cons_succ, List.set_cons_zero, List.length_cons, List.length_nil, List.replicate_succ, List.replicate_zero, List.cons_append, List.nil_append, Nat.reduceAdd, Nat.reduceLT, Nat.reduceEqDiff, if_true, if_false, and_self, ite_true, ite_false, Bool.false_eq_true, Bool.not_true, Bool.not_false, Bool.or_true, Bool.true_or, decide_true, decide_false, eq_self, $xs,*])
abbrev dn (n : Nat) : D := .int (n : Nat)
abbrev dns (l : List Nat) : D := .tup (l.map dn)
abbrev ltr (i : Nat) : Str := ⟨#[65 + i]⟩
abbrev abc : Str := "ABCDEFGHIJKLMNOPQRSTUVWXYZ"
theorem abc_at {i : Nat} (h : i < 26) : abc.cps.toList[i]? = some (65 + i) := by
  have z : (List.range 26).all (fun i => abc.cps.toList[i]? == some (65 + i)) = true := by decide +kernel
  rw [List.all_eq_true] at z
  have := z i (List.mem_range.mpr h)
  simpa using this
theorem abc_len : abc.length ≤ sizeLine := by decide +kernel
theorem ix_abc {i : Nat} (h : i < 26) : fIx (.str ("ABCDEFGHIJKLMNOPQRSTUVWXYZ" : Str)) (.int (i : Nat)) = some (.d (.str (ltr i))) := fIx_s abc_len (abc_at h)
/-- the value of a polynomial -/
def pval (x : Nat) : List Nat → Nat
  | [] => 0
  | c :: r => c + x * pval x r
def rowv (p : Nat) (cs : List Nat) (x : Nat) : Nat := pval x cs % p
def rowI (p w : Nat) (cs : List Nat) : List Nat := (List.range w).map (rowv p cs)
abbrev dl (i : Nat) : D := .str (ltr i)
abbrev drow (p w : Nat) (cs : List Nat) : D := .tup ((rowI p w cs).map dl)
def horn (p x : Nat) (cs : List Nat) : Nat := cs.reverse.foldl (fun v c => (v * x + c) % p) 0
theorem horn_cons (p x c : Nat) (r : List Nat) : horn p x (c :: r) = (horn p x r * x + c) % p := by
  unfold horn
  rw [List.reverse_cons, List.foldl_append]
  rfl
theorem horn_eq (p x : Nat) : ∀ cs : List Nat, horn p x cs = rowv p cs x
  | [] => by simp [horn, rowv, pval]
  | c :: r => by
    rw [horn_cons, horn_eq p x r]
    unfold rowv
    rw [pval, Nat.add_mod, Nat.mod_mul_mod, ← Nat.add_mod, Nat.mul_comm, Nat.add_comm]
/-- the formula's object -/
abbrev fob (C : Addr) (p w k : Nat) : D := .obj C [("prime" : Str), ("places" : Str), ("size" : Str)] [dn p, dn w, dn k]
section
variable {C : Addr} {p w k : Nat} {s : BM.Env}
theorem n_pp : (("places" : Str) == ("prime" : Str)) = false := by decide +kernel
theorem n_sp : (("size" : Str) == ("prime" : Str)) = false := by decide +kernel
theorem n_sl : (("size" : Str) == ("places" : Str)) = false := by decide +kernel
theorem q_prime : fldK C ("prime" : Str) (.d (fob C p w k)) s = some (.d (dn p), s) := by
  unfold fldK mFld mpure
  simp only [e_toD, if_true, List.zip_cons_cons, List.lookup_cons, beq_self_eq_true]
theorem q_places : fldK C ("places" : Str) (.d (fob C p w k)) s = some (.d (dn w), s) := by
  unfold fldK mFld mpure
  simp only [e_toD, if_true, List.zip_cons_cons, List.lookup_cons, beq_self_eq_true, n_pp]
theorem q_size : fldK C ("size" : Str) (.d (fob C p w k)) s = some (.d (dn k), s) := by
  unfold fldK mFld mpure
  simp only [e_toD, if_true, List.zip_cons_cons, List.lookup_cons, beq_self_eq_true, n_sp, n_sl]
theorem o_row : objK C ("row" : Str) (.d (fob C p w k)) s = some (.d (fob C p w k), s) := by
  unfold objK mObj mpure
  simp only [e_toD]
  rw [if_pos ⟨trivial, by decide +kernel⟩]
theorem o_value : objK C ("value_at" : Str) (.d (fob C p w k)) s = some (.d (fob C p w k), s) := by
  unfold objK mObj mpure
  simp only [e_toD]
  rw [if_pos ⟨trivial, by decide +kernel⟩]
end
theorem r_init (C : Addr) (p w k : Nat) : c_Formula___init__ C [.obj C [] [], .d (dn p), .d (dn w), .d (dn k)] = some (.d .non, [.obj C [("prime" : Str), ("places" : Str), ("size" : Str)] [.d (dn p), .d (dn w), .d (dn k)], .d (dn p), .d (dn w), .d (dn k)]) := by
  have s1 : ∀ s : BM.Env, s[1]? = some (some (.d (dn p))) → s[0]? = some (some (.obj C [] [])) → sFldP 0 C ("prime" : Str) (mVar 1) s = some (.nx, s.set 0 (some (.obj C [("prime" : Str)] [.d (dn p)]))) := fun s h1 h0 => by
    unfold sFldP mVar
    simp only [h1, h0]
    rw [if_pos ⟨trivial, by decide +kernel, rfl, by decide⟩]; rfl
  have s2 : ∀ s : BM.Env, s[2]? = some (some (.d (dn w))) → s[0]? = some (some (.obj C [("prime" : Str)] [.d (dn p)])) → sFldP 0 C ("places" : Str) (mVar 2) s = some (.nx, s.set 0 (some (.obj C [("prime" : Str), ("places" : Str)] [.d (dn p), .d (dn w)]))) := fun s h1 h0 => by
    unfold sFldP mVar
    simp only [h1, h0]
    rw [if_pos ⟨trivial, by decide +kernel, rfl, by decide⟩]; rfl
  have s3 : ∀ s : BM.Env, s[3]? = some (some (.d (dn k))) → s[0]? = some (some (.obj C [("prime" : Str), ("places" : Str)] [.d (dn p), .d (dn w)])) → sFldP 0 C ("size" : Str) (mVar 3) s = some (.nx, s.set 0 (some (.obj C [("prime" : Str), ("places" : Str), ("size" : Str)] [.d (dn p), .d (dn w), .d (dn k)]))) := fun s h1 h0 => by
    unfold sFldP mVar
    simp only [h1, h0]
    rw [if_pos ⟨trivial, by decide +kernel, rfl, by decide⟩]; rfl
  simp_arith [c_Formula___init__, m_Formula___init__]
  rw [s1 _ rfl rfl]
  simp_arith []
  rw [s2 _ rfl rfl]
  simp_arith []
  rw [s3 _ rfl rfl]
  simp_arith []
theorem r_value_at {C : Addr} {p w k x : Nat} (cs : List Nat) (hp : 0 < p) (hx : x < 2 ^ 60) : c_Formula_value_at C [.d (fob C p w k), .d (dns cs), .d (dn x)] = some (.d (dn (rowv p cs x)), [.d (fob C p w k), .d (dns cs), .d (dn x)]) := by
  have hp' : (0 : Int) < (p : Int) := by omega
  have sx : sm64 ((x : Nat) : Int) = true := sm_of (by omega) (by omega)
  have lp : ∀ (l : List Nat) (v : Nat) (z : Option O), ∃ z', forL (gNm 4) (sSet 3 (mOp (w2 fMod) [mval (mOp (w2 fAdd) [mval (mOp (w2 fMul) [mval (mVar 3), mval (mVar 2)]), mval (mVar 4)]), mval (mFld C ("prime" : Str) (mVar 0))])) (l.map dn) [some (.d (fob C p w k)), some (.d (dns cs)), some (.d (dn x)), some (.d (dn v)), z]
      = some (.nx, [some (.d (fob C p w k)), some (.d (dns cs)), some (.d (dn x)), some (.d (dn (l.foldl (fun v c => (v * x + c) % p) v))), z']) := by
    intro l
    induction l with
    | nil => intro v z; exact ⟨z, rfl⟩
    | cons c l ih =>
      intro v z
      obtain ⟨z', e⟩ := ih ((v * x + c) % p) (some (.d (dn c)))
      refine ⟨z', ?_⟩
      have em : ((v : Int) * (x : Int) + (c : Int)) % (p : Int) = (((v * x + c) % p : Nat) : Int) := by
        rw [Int.natCast_emod, Int.natCast_add, Int.natCast_mul]
      simp_arith [List.map_cons, fMul_r sx, q_prime, fMod_p hp', em, e, List.foldl_cons]
  obtain ⟨z', e⟩ := lp cs.reverse 0 none
  rw [show some (O.d (dn 0)) = some (O.d (.int 0)) from rfl] at e
  rw [← horn_eq]
  unfold horn
  simp_arith [c_Formula_value_at, m_Formula_value_at, ← List.map_reverse, e]
theorem r_frow {C : Addr} {p w k : Nat} (cs : List Nat) (hp : 0 < p) (hp2 : p ≤ 26) (hw : w ≤ 1000) : c_Formula_row C [.d (fob C p w k), .d (dns cs)] = some (.d (drow p w cs), [.d (fob C p w k), .d (dns cs)]) := by
  have lc := x_lcT (emb := dn) (own := [2]) (g := gNm 2) (t := tYes) (elt := mOp (w2 fIx) [mval (mC (.str ("ABCDEFGHIJKLMNOPQRSTUVWXYZ" : Str))), mval (mCall (c_Formula_value_at C) [aval (mObj C ("value_at" : Str) (mVar 0)), aval (mVar 1), aval (mVar 2)])])
    (s0 := [some (.d (fob C p w k)), some (.d (dns cs)), none]) (f := fun _ => true) (h := fun x => .d (dl (rowv p cs x))) (List.range w) (by
      intro x hx
      have hx := List.mem_range.mp hx
      refine ⟨[some (.d (fob C p w k)), some (.d (dns cs)), some (.d (dn x))], rfl, rfl, fun _ => ?_, rfl⟩
      have hv : rowv p cs x < 26 := Nat.lt_of_lt_of_le (Nat.mod_lt _ hp) hp2
      simp_arith [o_value, r_value_at cs hp (show x < 2 ^ 60 by omega), ix_abc hv])
  have up : upto 0 w = (List.range w).map dn := by
    unfold upto
    refine List.map_congr_left fun i _ => ?_
    simp
  have fl : (List.range w).filter (fun _ => true) = List.range w := List.filter_eq_self.mpr fun _ _ => rfl
  rw [fl] at lc
  have em : (List.range w).map (fun x => O.d (dl (rowv p cs x))) = leaf ((rowI p w cs).map dl) := by
    unfold rowI
    rw [leaf, List.map_map, List.map_map]; rfl
  rw [em] at lc
  have sz1 : (leaf ((rowI p w cs).map dl)).length ≤ sizeLine := by
    rw [leaf_len, List.length_map, rowI, List.length_map, List.length_range, sizeLine_eq]; omega
  have ri : (-(2 : Int) ^ 62 ≤ (w : Nat) ∧ ((w : Nat) : Int) < 2 ^ 62) := by omega
  simp_arith [c_Formula_row, m_Formula_row, q_places, e_ifp ri, Int.toNat_natCast, up, lc, e_ifp sz1]
end K39
set_option Elab.async false
set_option linter.all false
set_option maxRecDepth 100000
set_option maxHeartbeats 4000000
namespace K39
open PySem PySem.Spec PyProof.Rows L2 BM
local macro_rules
  | `(tactic| simp_arith [$xs,*]) => `(tactic| simp -implicitDefEqProofs only [↓e_gen, ↓e_lc, ↓e_lcL0, ↓e_lcL, ↓ob_some, ↓oo_some, ↓vr_some, ↓sl_some, ↓al_some, ↓fk_nx, ↓fk_bk, ↓fk_ct, ↓fk_rt, ↓lk_nx, ↓lk_bk, ↓lk_ct, ↓lk_rt, ↓rk_nx, ↓rk_rt, ↓ifk_t, ↓ifk_f, ↓rg1_int, ↓e_pure, ↓e_bind, ↓e_var, ↓e_fz, ↓e_mv, ↓e_C, ↓e_val, ↓e_pl, ↓e_mods0, ↓e_mods, ↓e_get0, ↓e_get, ↓e_getV, ↓e_getP, ↓e_flatD, ↓e_flatL, ↓leafs_leaf, ↓e_leafs0, ↓e_leafsD, ↓e_ops, ↓e_op, ↓e_tst, ↓e_bO, ↓e_w1, ↓e_w2, ↓e_w1b, ↓e_w2b, ↓e_truth1, ↓e_truthB, ↓e_truthI, ↓e_truthN, ↓e_truthL, ↓e_truthT, ↓e_args0, ↓e_args, ↓e_tup, ↓e_lst, ↓e_if, ↓e_sif, ↓e_or, ↓e_and, ↓e_not, ↓e_mnot, ↓e_yes, ↓e_mor, ↓e_mand, ↓e_mset, ↓e_set, ↓e_setO, ↓e_expr, ↓e_ret, ↓e_retN, ↓e_pass, ↓e_break, ↓e_cont, ↓e_seq, ↓e_gNm, ↓e_gTs0, ↓e_gTs, ↓e_gTp, ↓e_gTpST, ↓e_gTpSL, ↓e_tgt, ↓e_sfor, ↓e_for0, ↓e_for, ↓e_wipe0, ↓e_wipe, ↓e_iS, ↓e_listT, ↓e_listL, ↓e_iR1, ↓e_rev, ↓e_aval, ↓e_aplc, ↓e_mars0, ↓e_mars, ↓e_take0, ↓e_takeV, ↓e_takeP, ↓e_give0, ↓e_giveV, ↓e_giveP, ↓e_call, ↓e_callM, ↓e_in0, ↓e_inT, ↓e_inF, ↓e_outs0, ↓e_outsT, ↓e_outsF, ↓e_permF, ↓e_permL0, ↓e_permL, ↓pcons_some, ↓e_app, ↓e_msetB0, ↓e_msetB1, ↓e_par, ↓e_par3, ↓e_fld, ↓e_obj, ↓e_make, ↓mkK_ok, ↓e_enA, ↓e_rv, ↓e_dctS, ↓e_lrg, ↓e_isi, ↓e_upper, ↓e_revX, ↓revX_t, ↓e_iSX, ↓e_dct0, ↓e_chn, ↓chK_eq, ↓e_zipS, ↓e_zipL, ↓e_zipV, ↓e_fr, ↓e_zipT, ↓e_lower, ↓e_seqL, ↓e_seqT, ↓e_seqS, ↓e_fListXL, ↓e_fListXT, ↓e_join2, ↓joinK_str, ↓e_join, e_fEqZT, e_fEqZL, e_fNeZT, e_fNeZL, e_toD, e_toL, toDs_leaf, e_toDs0, e_toDs, e_fAddI, e_fSubI,  e_fLtI, e_fLeI, e_fGtI, e_fGeI, e_fEqI, e_fEqS, e_fEqB, ↓e_fNe, ↓e_fNotIn, ↓e_fIsN, e_fLenL, e_fLenT, e_fListL, e_fListT, e_fTupL, e_fTupT, e_fMin, e_fMax, e_fNegI,
      List.getElem?_cons_succ, List.getElem?_cons_zero, List.set_cons_succ, List.set_cons_zero, List.length_cons, List.length_nil, List.replicate_succ, List.replicate_zero, List.cons_append, List.nil_append, Nat.reduceAdd, Nat.reduceLT, Nat.reduceEqDiff, if_true, if_false, and_self, ite_true, ite_false, Bool.false_eq_true, Bool.not_true, Bool.not_false, Bool.or_true, Bool.true_or, decide_true, decide_false, eq_self, $xs,*])
theorem upto_nat (w : Nat) : upto 0 w = (List.range w).map dn := by
  unfold upto
  refine List.map_congr_left fun i _ => ?_
  simp
theorem row_inner {P W N F X : Option O} {x : Nat} (hx : X = some (.d (dn x))) (sx : x < 2 ^ 60) : ∀ (l : List Nat), (∀ c ∈ l, c < 2 ^ 31) → ∀ (t q : Nat) (z : Option O), ∃ z',
    forL (gNm 7) (sPar 5 false 6 false (mOp (w2 fAdd) [mval (mVar 5), mval (mOp (w2 fMul) [mval (mVar 7), mval (mVar 6)])]) (mOp (w2 fMul) [mval (mVar 6), mval (mVar 4)])) (l.map dn) [P, W, N, F, X, some (.d (dn t)), some (.d (dn q)), z]
      = some (.nx, [P, W, N, F, X, some (.d (dn (t + q * pval x l))), some (.d (dn (q * x ^ l.length))), z'])
  | [], _, t, q, z => ⟨z, by simp [pval]; rfl⟩
  | c :: l, h, t, q, z => by
    subst hx
    obtain ⟨z', e⟩ := row_inner (P := P) (W := W) (N := N) (F := F) rfl sx l (fun d hd => h d (List.mem_cons_of_mem _ hd)) (t + c * q) (q * x) (some (.d (dn c)))
    have sc : sm64 ((c : Nat) : Int) = true := by have := h c List.mem_cons_self; exact sm_of (by omega) (by omega)
    have ss : sm64 ((x : Nat) : Int) = true := sm_of (by omega) (by omega)
    have e1 : (t : Int) + (c : Int) * (q : Int) = ((t + c * q : Nat) : Int) := by rw [Int.natCast_add, Int.natCast_mul]
    have e2 : (q : Int) * (x : Int) = ((q * x : Nat) : Int) := by rw [Int.natCast_mul]
    have a1 : t + c * q + q * x * pval x l = t + q * pval x (c :: l) := by rw [pval, Nat.mul_add, ← Nat.mul_assoc, Nat.mul_comm q c, Nat.add_assoc]
    have a2 : q * x * x ^ l.length = q * x ^ (c :: l).length := by rw [List.length_cons, Nat.pow_succ, Nat.mul_assoc, Nat.mul_comm x]
    rw [a1, a2] at e
    refine ⟨z', ?_⟩
    simp_arith [List.map_cons, fMul_l sc, fMul_r ss, e1, e2, e]
theorem r_lrow {p w : Nat} (cs : List Nat) (hc : ∀ c ∈ cs, c < 2 ^ 31) (hp : 0 < p) (hp2 : p ≤ 26) (hw : w ≤ 1000) : c_l_row [.d (dn p), .d (dn w), .d (dns cs)] = some (.d (drow p w cs), [.d (dn p), .d (dn w), .d (dns cs)]) := by
  have hp' : (0 : Int) < (p : Int) := by omega
  have lp := x_for (g := gNm 4) (body := (sSeq (sTgt (gTpS [gNm 5, gNm 6]) (mTup [mC (.int 0), mC (.int 1)]))
  (sSeq (sFor (iSX (mVar 2)) (gNm 7) (sPar 5 false 6 false (mOp (w2 fAdd) [mval (mVar 5), mval (mOp (w2 fMul) [mval (mVar 7), mval (mVar 6)])]) (mOp (w2 fMul) [mval (mVar 6), mval (mVar 4)])))
  (sSet 3 (mOp (w2 fAdd) [mval (mVar 3), mval (mTup [mOp (w2 fIx) [mval (mC (.str ("ABCDEFGHIJKLMNOPQRSTUVWXYZ" : Str))), mval (mOp (w2 fMod) [mval (mVar 5), mval (mVar 0)])]])])))))
    (P := fun j s => ∃ x4 x5 x6 x7, s = [some (.d (dn p)), some (.d (dn w)), some (.d (dns cs)), some (.d (.tup (((List.range j).map (rowv p cs)).map dl))), x4, x5, x6, x7])
    (ds := (List.range w).map dn) (i := 0) (s := [some (.d (dn p)), some (.d (dn w)), some (.d (dns cs)), some (.d (.tup [])), none, none, none, none]) ⟨none, none, none, none, rfl⟩ (by
      rintro j d s hd ⟨x4, x5, x6, x7, rfl⟩
      have hj : j < w := by
        have := (List.getElem?_eq_some_iff.mp hd).1
        simpa using this
      rw [List.getElem?_map, List.getElem?_range hj] at hd
      have e := (Option.some.inj hd).symm
      subst e
      rw [Nat.zero_add]
      obtain ⟨z', e⟩ := row_inner (P := some (.d (dn p))) (W := some (.d (dn w))) (N := some (.d (dns cs))) (F := some (.d (.tup (((List.range j).map (rowv p cs)).map dl)))) (x := j) rfl (by omega) cs hc 0 1 x7
      rw [show some (O.d (dn 0)) = some (O.d (.int 0)) from rfl, show some (O.d (dn 1)) = some (O.d (.int 1)) from rfl, Nat.zero_add, Nat.one_mul, Nat.one_mul] at e
      have hv : rowv p cs j < 26 := Nat.lt_of_lt_of_le (Nat.mod_lt _ hp) hp2
      have em : ((pval j cs : Nat) : Int) % (p : Int) = ((rowv p cs j : Nat) : Int) := by rw [rowv, Int.natCast_emod]
      have ad : fAdd (.tup (((List.range j).map (rowv p cs)).map dl)) (.tup [dl (rowv p cs j)]) = some (.d (.tup (((List.range (j + 1)).map (rowv p cs)).map dl))) := by
        unfold fAdd
        simp only
        rw [if_pos (by rw [List.length_map, List.length_map, List.length_range, sizeLine_eq]; simp; omega), List.range_succ]
        simp
      refine ⟨[some (.d (dn p)), some (.d (dn w)), some (.d (dns cs)), some (.d (.tup (((List.range j).map (rowv p cs)).map dl))), some (.d (dn j)), x5, x6, x7], [some (.d (dn p)), some (.d (dn w)), some (.d (dns cs)), some (.d (.tup (((List.range (j + 1)).map (rowv p cs)).map dl))), some (.d (dn j)), some (.d (dn (pval j cs))), some (.d (dn (1 * j ^ cs.length))), z'], rfl, ?_, ⟨_, _, _, _, rfl⟩⟩
      rw [Nat.one_mul]
      simp_arith [e, fMod_p hp', em, ix_abc hv, ad])
  obtain ⟨s', l1, x4, x5, x6, x7, rfl⟩ := lp
  rw [List.length_map, List.length_range, Nat.zero_add] at l1
  have ri : (-(2 : Int) ^ 62 ≤ (w : Nat) ∧ ((w : Nat) : Int) < 2 ^ 62) := by omega
  simp_arith [c_l_row, m_l_row, e_ifp ri, Int.toNat_natCast, upto_nat, l1]
  rfl
end K39
set_option Elab.async false
set_option linter.all false
set_option maxRecDepth 100000
set_option maxHeartbeats 4000000
namespace K39
open PySem PySem.Spec PyProof.Rows L2 BM
local macro_rules
  | `(tactic| simp_arith [$xs,*]) => `(tactic| simp -implicitDefEqProofs only [↓e_gen, ↓e_lc, ↓e_lcL0, ↓e_lcL, ↓ob_some, ↓oo_some, ↓vr_some, ↓sl_some, ↓al_some, ↓fk_nx, ↓fk_bk, ↓fk_ct, ↓fk_rt, ↓lk_nx, ↓lk_bk, ↓lk_ct, ↓lk_rt, ↓rk_nx, ↓rk_rt, ↓ifk_t, ↓ifk_f, ↓rg1_int, ↓e_pure, ↓e_bind, ↓e_var, ↓e_fz, ↓e_mv, ↓e_C, ↓e_val, ↓e_pl, ↓e_mods0, ↓e_mods, ↓e_get0, ↓e_get, ↓e_getV, ↓e_getP, ↓e_flatD, ↓e_flatL, ↓leafs_leaf, ↓e_leafs0, ↓e_leafsD, ↓e_ops, ↓e_op, ↓e_tst, ↓e_bO, ↓e_w1, ↓e_w2, ↓e_w1b, ↓e_w2b, ↓e_truth1, ↓e_truthB, ↓e_truthI, ↓e_truthN, ↓e_truthL, ↓e_truthT, ↓e_args0, ↓e_args, ↓e_tup, ↓e_lst, ↓e_if, ↓e_sif, ↓e_or, ↓e_and, ↓e_not, ↓e_mnot, ↓e_yes, ↓e_mor, ↓e_mand, ↓e_mset, ↓e_set, ↓e_setO, ↓e_expr, ↓e_ret, ↓e_retN, ↓e_pass, ↓e_break, ↓e_cont, ↓e_seq, ↓e_gNm, ↓e_gTs0, ↓e_gTs, ↓e_gTp, ↓e_gTpST, ↓e_gTpSL, ↓e_tgt, ↓e_sfor, ↓e_for0, ↓e_for, ↓e_wipe0, ↓e_wipe, ↓e_iS, ↓e_listT, ↓e_listL, ↓e_iR1, ↓e_rev, ↓e_aval, ↓e_aplc, ↓e_mars0, ↓e_mars, ↓e_take0, ↓e_takeV, ↓e_takeP, ↓e_give0, ↓e_giveV, ↓e_giveP, ↓e_call, ↓e_callM, ↓e_in0, ↓e_inT, ↓e_inF, ↓e_outs0, ↓e_outsT, ↓e_outsF, ↓e_permF, ↓e_permL0, ↓e_permL, ↓pcons_some, ↓e_app, ↓e_msetB0, ↓e_msetB1, ↓e_par, ↓e_par3, ↓e_fld, ↓e_obj, ↓e_make, ↓mkK_ok, ↓e_enA, ↓e_rv, ↓e_dctS, ↓e_lrg, ↓e_isi, ↓e_upper, ↓e_revX, ↓revX_t, ↓e_iSX, ↓e_dct0, ↓e_chn, ↓chK_eq, ↓e_zipS, ↓e_zipL, ↓e_zipV, ↓e_fr, ↓e_zipT, ↓e_lower, ↓e_seqL, ↓e_seqT, ↓e_seqS, ↓e_fListXL, ↓e_fListXT, ↓e_join2, ↓joinK_str, ↓e_join, e_fEqZT, e_fEqZL, e_fNeZT, e_fNeZL, e_toD, e_toL, toDs_leaf, e_toDs0, e_toDs, e_fAddI, e_fSubI,  e_fLtI, e_fLeI, e_fGtI, e_fGeI, e_fEqI, e_fEqS, e_fEqB, ↓e_fNe, ↓e_fNotIn, ↓e_fIsN, e_fLenL, e_fLenT, e_fListL, e_fListT, e_fTupL, e_fTupT, e_fMin, e_fMax, e_fNegI,
      List.getElem?_cons_succ, List.getElem?_cons_zero, List.set_cons_succ, List.set_cons_zero, List.length_cons, List.length_nil, List.replicate_succ, List.replicate_zero, List.cons_append, List.nil_append, Nat.reduceAdd, Nat.reduceLT, Nat.reduceEqDiff, if_true, if_false, and_self, ite_true, ite_false, Bool.false_eq_true, Bool.not_true, Bool.not_false, Bool.or_true, Bool.true_or, decide_true, decide_false, eq_self, $xs,*])
abbrev Cq := Str × List Nat
abbrev cqD (c : Cq) : D := .tup [.str c.1, dns c.2]
abbrev cqsD (l : List Cq) : D := .tup (l.map cqD)
theorem ok_dns {l : List Nat} (h : ∀ x ∈ l, x < 2 ^ 31) : okD (dns l) = true := by
  rw [okD]
  exact okDs_map fun x hx => okD_int (by have := h x hx; omega)
theorem dp_dns (l : List Nat) : dpD (dns l) ≤ 1 := by
  rw [dpD]
  have := dpDs_map (f := dn) (B := 0) (l := l) fun x _ => by simp [dpD]
  omega
end K39
set_option Elab.async false
set_option linter.all false
set_option maxRecDepth 100000
set_option maxHeartbeats 4000000
namespace K39
open PySem PySem.Spec PyProof.Rows L2 BM
local macro_rules
  | `(tactic| simp_arith [$xs,*]) => `(tactic| simp -implicitDefEqProofs only [↓e_gen, ↓e_lc, ↓e_lcL0, ↓e_lcL, ↓ob_some, ↓oo_some, ↓vr_some, ↓sl_some, ↓al_some, ↓fk_nx, ↓fk_bk, ↓fk_ct, ↓fk_rt, ↓lk_nx, ↓lk_bk, ↓lk_ct, ↓lk_rt, ↓rk_nx, ↓rk_rt, ↓ifk_t, ↓ifk_f, ↓rg1_int, ↓e_pure, ↓e_bind, ↓e_var, ↓e_fz, ↓e_mv, ↓e_C, ↓e_val, ↓e_pl, ↓e_mods0, ↓e_mods, ↓e_get0, ↓e_get, ↓e_getV, ↓e_getP, ↓e_flatD, ↓e_flatL, ↓leafs_leaf, ↓e_leafs0, ↓e_leafsD, ↓e_ops, ↓e_op, ↓e_tst, ↓e_bO, ↓e_w1, ↓e_w2, ↓e_w1b, ↓e_w2b, ↓e_truth1, ↓e_truthB, ↓e_truthI, ↓e_truthN, ↓e_truthL, ↓e_truthT, ↓e_args0, ↓e_args, ↓e_tup, ↓e_lst, ↓e_if, ↓e_sif, ↓e_or, ↓e_and, ↓e_not, ↓e_mnot, ↓e_yes, ↓e_mor, ↓e_mand, ↓e_mset, ↓e_set, ↓e_setO, ↓e_expr, ↓e_ret, ↓e_retN, ↓e_pass, ↓e_break, ↓e_cont, ↓e_seq, ↓e_gNm, ↓e_gTs0, ↓e_gTs, ↓e_gTp, ↓e_gTpST, ↓e_gTpSL, ↓e_tgt, ↓e_sfor, ↓e_for0, ↓e_for, ↓e_wipe0, ↓e_wipe, ↓e_iS, ↓e_listT, ↓e_listL, ↓e_iR1, ↓e_rev, ↓e_aval, ↓e_aplc, ↓e_mars0, ↓e_mars, ↓e_take0, ↓e_takeV, ↓e_takeP, ↓e_give0, ↓e_giveV, ↓e_giveP, ↓e_call, ↓e_callM, ↓e_in0, ↓e_inT, ↓e_inF, ↓e_outs0, ↓e_outsT, ↓e_outsF, ↓e_permF, ↓e_permL0, ↓e_permL, ↓pcons_some, ↓e_app, ↓e_msetB0, ↓e_msetB1, ↓e_par, ↓e_par3, ↓e_fld, ↓e_obj, ↓e_make, ↓mkK_ok, ↓e_enA, ↓e_rv, ↓e_dctS, ↓e_lrg, ↓e_isi, ↓e_upper, ↓e_revX, ↓revX_t, ↓e_iSX, ↓e_dct0, ↓e_chn, ↓chK_eq, ↓e_zipS, ↓e_zipL, ↓e_zipV, ↓e_fr, ↓e_zipT, ↓e_lower, ↓e_seqL, ↓e_seqT, ↓e_seqS, ↓e_fListXL, ↓e_fListXT, ↓e_join2, ↓joinK_str, ↓e_join, e_fEqZT, e_fEqZL, e_fNeZT, e_fNeZL, e_toD, e_toL, toDs_leaf, e_toDs0, e_toDs, e_fAddI, e_fSubI,  e_fLtI, e_fLeI, e_fGtI, e_fGeI, e_fEqI, e_fEqS, e_fEqB, ↓e_fNe, ↓e_fNotIn, ↓e_fIsN, e_fLenL, e_fLenT, e_fListL, e_fListT, e_fTupL, e_fTupT, e_fMin, e_fMax, e_fNegI,
      List.getElem?_cons_succ, List.getElem?_cons_zero, List.set_cons_succ, List.set_cons_zero, List.length_cons, List.length_nil, List.replicate_succ, List.replicate_zero, List.cons_append, List.nil_append, Nat.reduceAdd, Nat.reduceLT, Nat.reduceEqDiff, if_true, if_false, and_self, ite_true, ite_false, Bool.false_eq_true, Bool.not_true, Bool.not_false, Bool.or_true, Bool.true_or, decide_true, decide_false, eq_self, $xs,*])
theorem deck_loop {A B : Option O} : ∀ (l : List Int) (t : Int) (z : Option O), ∃ (t' : Int) (z' : Option O),
    forL (gNm 3) (sSet 2 (mOp (w2 fMod) [mval (mOp (w2 fAdd) [mval (mOp (w2 fAdd) [mval (mOp (w2 fMul) [mval (mVar 2), mval (mC (.int 48271))]), mval (mOp (w2 fMod) [mval (mVar 3), mval (mC (.int 2147483629))])]), mval (mC (.int 29))]), mval (mC (.int 2147483587))])) (l.map D.int) [A, B, some (.d (.int t)), z] = some (.nx, [A, B, some (.d (.int t')), z'])
  | [], t, z => ⟨t, z, rfl⟩
  | c :: l, t, z => by
    obtain ⟨t', z', e⟩ := deck_loop (A := A) (B := B) l ((t * 48271 + c % 2147483629 + 29) % 2147483587) (some (.d (.int c)))
    refine ⟨t', z', ?_⟩
    have c1 : sm64 48271 = true := by decide
    have p1 : (0 : Int) < 2147483629 := by decide
    have p2 : (0 : Int) < 2147483587 := by decide
    simp_arith [List.map_cons, fMul_r c1, fMod_p p1, fMod_p p2, e]
theorem r_deck {ns : List Int} (h : ns.length ≤ 63) : ∃ deck, c_l_deck [.d (.lst (ns.map D.int))] = some (deck, [.d (.lst (ns.map D.int))]) ∧ Deck 0 deck := by
  have cut : fSlH [D.lst (ns.map D.int), .int 63] = some (.lst (leaf (ns.map D.int))) := by
    show some (O.lst (leaf (BM.cutD (ns.map D.int) none (some 63)))) = _
    rw [cut63 (by rw [List.length_map]; exact h)]
  obtain ⟨t', z', e⟩ := deck_loop (A := some (.d (.lst (ns.map D.int)))) (B := some (.d (.lst (ns.map D.int)))) ns 39019 none
  refine ⟨dk ns.reverse t' ((0 : Nat) : Int), ?_, ⟨ns.reverse, t', by simpa using h, rfl⟩⟩
  simp_arith [c_l_deck, m_l_deck, cut, e, ← List.map_reverse, List.map_cons, List.map_nil]
  rfl
theorem r_pickO {n : Nat} {deck : O} (h : Deck n deck) (hn : n < 2 ^ 39) {o : O} {it : D} {l : List D} (hf : o.flat = some it) (hl : listOfD it = some l) (h0 : l ≠ []) (hz : l.length < 1073741824) : ∃ d deck', c_l_pick [deck, o] = some (.d d, [deck', o]) ∧ Deck (n + 1) deck' ∧ d ∈ l := by
  have lp : 0 < l.length := List.length_pos_iff.mpr h0
  obtain ⟨v, deck', e1, e2, e3⟩ := r_draw h (many := l.length) ⟨lp, hz⟩ hn
  have g1 : l[v]? = some l[v] := List.getElem?_eq_getElem e3
  have ln : fLen it = some (.d (.int l.length)) := by
    cases it with
    | lst l' => cases hl; rfl
    | tup l' => cases hl; rfl
    | _ => cases hl
  have ix : fIx it (.int v) = some (.d l[v]) := by
    cases it with
    | lst l' => cases hl; exact fIx_l g1
    | tup l' => cases hl; exact fIx_t g1
    | _ => cases hl
  refine ⟨l[v], deck', ?_, e2, List.getElem_mem e3⟩
  simp_arith [c_l_pick, m_l_pick, hf, ln, e1, ix]
/-- an owned list -/
theorem r_pickL {n : Nat} {deck : O} (h : Deck n deck) (hn : n < 2 ^ 39) {l : List D} (h0 : l ≠ []) (hz : l.length < 1073741824) : ∃ d deck', c_l_pick [deck, .lst (leaf l)] = some (.d d, [deck', .lst (leaf l)]) ∧ Deck (n + 1) deck' ∧ d ∈ l :=
  r_pickO h hn (o := .lst (leaf l)) (it := .lst l) (by rw [e_flatL, leafs_leaf]; rfl) rfl h0 hz
theorem rng_ok {w : Nat} (h : w ≤ 1000) : -(2 : Int) ^ 62 ≤ (w : Nat) ∧ ((w : Nat) : Int) < 2 ^ 62 := by omega
theorem r_numbers {n : Nat} {deck : O} (h : Deck n deck) {p k : Nat} (hp : 0 < p) (hp2 : p ≤ 26) (hk : k ≤ 100) (hn : n + 200 < 2 ^ 39) : ∃ (cs : List Nat) (deck' : O), c_l_numbers [deck, .d (dn p), .d (dn k)] = some (.d (dns cs), [deck', .d (dn p), .d (dn k)]) ∧ Deck (n + k) deck' ∧ cs.length = k ∧ ∀ c ∈ cs, c < p := by
  obtain ⟨os, s', e, ⟨dk', rfl, h1⟩, h2, h3⟩ := x_lcE (own := [3]) (g := gNm 3) (t := tYes) (elt := mCall c_l_draw [aplc' 0, aval (mVar 1)])
    (P := fun j s => ∃ dk, s = [some dk, some (.d (dn p)), some (.d (dn k)), none] ∧ Deck j dk) (R := fun _ o => ∃ v : Nat, v < p ∧ o = .d (dn v)) ((List.range k).map dn) n [some deck, some (.d (dn p)), some (.d (dn k)), none] ⟨deck, rfl, h⟩ (by
      rintro j d s hd ⟨dk, rfl, hD⟩
      have hj : j < k := by simpa using (List.getElem?_eq_some_iff.mp hd).1
      obtain ⟨v, dk', e1, e2, e3⟩ := r_draw hD (many := p) ⟨hp, by omega⟩ (by omega)
      refine ⟨[some dk, some (.d (dn p)), some (.d (dn k)), some (.d d)], [some dk', some (.d (dn p)), some (.d (dn k)), some (.d d)], .d (dn v), rfl, rfl, ?_, ⟨v, e3, rfl⟩, ⟨dk', rfl, e2⟩⟩
      simp_arith [e1])
  obtain ⟨cs, rfl, g1, g2⟩ := parts_of _ _ h2 h3
  rw [List.length_map, List.length_range] at g2 h1
  have sz1 : (leaf (cs.map dn)).length ≤ sizeLine := by rw [leaf_len, List.length_map, sizeLine_eq]; omega
  refine ⟨cs, dk', ?_, h1, g2, g1⟩
  simp_arith [c_l_numbers, m_l_numbers, e_ifp (rng_ok (show k ≤ 1000 by omega)), Int.toNat_natCast, upto_nat, e, e_ifp sz1]
end K39
set_option Elab.async false
set_option linter.all false
set_option maxRecDepth 100000
set_option maxHeartbeats 4000000
namespace K39
open PySem PySem.Spec PyProof.Rows L2 BM
local macro_rules
  | `(tactic| simp_arith [$xs,*]) => `(tactic| simp -implicitDefEqProofs only [↓e_gen, ↓ob_some, ↓oo_some, ↓vr_some, ↓sl_some, ↓al_some, ↓fk_nx, ↓fk_bk, ↓fk_ct, ↓fk_rt, ↓lk_nx, ↓lk_bk, ↓lk_ct, ↓lk_rt, ↓rk_nx, ↓rk_rt, ↓ifk_t, ↓ifk_f, ↓rg1_int, ↓e_pure, ↓e_bind, ↓e_var, ↓e_fz, ↓e_mv, ↓e_C, ↓e_val, ↓e_pl, ↓e_mods0, ↓e_mods, ↓e_get0, ↓e_get, ↓e_getV, ↓e_getP, ↓e_flatD, ↓e_flatL, ↓leafs_leaf, ↓e_leafs0, ↓e_leafsD, ↓e_ops, ↓e_op, ↓e_tst, ↓e_bO, ↓e_w1, ↓e_w2, ↓e_w1b, ↓e_w2b, ↓e_truth1, ↓e_truthB, ↓e_truthI, ↓e_truthN, ↓e_truthL, ↓e_truthT, ↓e_args0, ↓e_args, ↓e_tup, ↓e_lst, ↓e_if, ↓e_sif, ↓e_or, ↓e_and, ↓e_not, ↓e_mnot, ↓e_yes, ↓e_mor, ↓e_mand, ↓e_mset, ↓e_set, ↓e_setO, ↓e_expr, ↓e_ret, ↓e_retN, ↓e_pass, ↓e_break, ↓e_cont, ↓e_seq, ↓e_gNm, ↓e_gTs0, ↓e_gTs, ↓e_gTp, ↓e_gTpST, ↓e_gTpSL, ↓e_tgt, ↓e_sfor, ↓e_for0, ↓e_for, ↓e_wipe0, ↓e_wipe, ↓e_iS, ↓e_listT, ↓e_listL, ↓e_iR1, ↓e_rev, ↓e_aval, ↓e_aplc, ↓e_mars0, ↓e_mars, ↓e_take0, ↓e_takeV, ↓e_takeP, ↓e_give0, ↓e_giveV, ↓e_giveP, ↓e_call, ↓e_callM, ↓e_in0, ↓e_inT, ↓e_inF, ↓e_outs0, ↓e_outsT, ↓e_outsF, ↓e_permF, ↓e_permL0, ↓e_permL, ↓pcons_some, ↓e_app, ↓e_msetB0, ↓e_msetB1, ↓e_par, ↓e_par3, ↓e_fld, ↓e_obj, ↓e_make, ↓mkK_ok, ↓e_enA, ↓e_rv, ↓e_dctS, ↓e_lrg, ↓e_isi, ↓e_upper, ↓e_revX, ↓revX_t, ↓e_iSX, ↓e_dct0, ↓e_chn, ↓chK_eq, ↓e_zipS, ↓e_zipL, ↓e_zipV, ↓e_fr, ↓e_zipT, ↓e_lower, ↓e_seqL, ↓e_seqT, ↓e_seqS, ↓e_fListXL, ↓e_fListXT, ↓e_join2, ↓joinK_str, ↓e_join, e_fEqZT, e_fEqZL, e_fNeZT, e_fNeZL, e_toD, e_toL, toDs_leaf, e_toDs0, e_toDs, e_fAddI, e_fSubI,  e_fLtI, e_fLeI, e_fGtI, e_fGeI, e_fEqI, e_fEqS, e_fEqB, ↓e_fNe, ↓e_fNotIn, ↓e_fIsN, e_fLenL, e_fLenT, e_fListL, e_fListT, e_fTupL, e_fTupT, e_fMin, e_fMax, e_fNegI,
      List.getElem?_cons_succ, List.getElem?_cons_zero, List.set_cons_succ, List.set_cons_zero, List.length_cons, List.length_nil, List.replicate_succ, List.replicate_zero, List.cons_append, List.nil_append, Nat.reduceAdd, Nat.reduceLT, Nat.reduceEqDiff, if_true, if_false, and_self, ite_true, ite_false, Bool.false_eq_true, Bool.not_true, Bool.not_false, Bool.or_true, Bool.true_or, decide_true, decide_false, eq_self, $xs,*])
theorem ty_str (x : Str) : fIsTy "str" (.str x) = some (.d (.bl true)) := isi_str (.str x) (fun _ _ _ h => by cases h)
theorem ty_tup (l : List D) : fIsTy "tuple" (.tup l) = some (.d (.bl true)) := isi_tup (.tup l) (fun _ _ _ h => by cases h)
theorem fIn_c (L : Str) (c : Nat) : fIn (.str ⟨#[c]⟩) (.str L) = some (inLt L c) := rfl
theorem r_is_word {L x : Str} (h : x.length ≤ 8) (h1 : 1 ≤ x.length) : c_is_word [.d (.str x), .d (.str L)] = some (.d (.bl (wordT L x)), [.d (.str x), .d (.str L)]) := by
  have ln := fLen_s (x := x) (by omega)
  have i1 : decide ((1 : Int) ≤ (x.length : Nat)) = true := decide_eq_true (by omega)
  have i8 : decide (((x.length : Nat) : Int) ≤ 8) = true := decide_eq_true (by omega)
  have lc : mLc [2] (iSX (mVar 0)) (gNm 2) tYes (mOp (bO (w2b fIn)) [mval (mVar 2), mval (mVar 1)]) [some (.d (.str x)), some (.d (.str L)), none] = some (.lst (leaf (x.cps.toList.map fun c => D.bl (inLt L c))), [some (.d (.str x)), some (.d (.str L)), none]) :=
    x_lcM (emb := fun c => D.str ⟨#[c]⟩) x.cps.toList (by simp_arith []; rfl) rfl (by rw [len_cps, sizeLine_eq]; omega) fun c _ =>
      ⟨[some (.d (.str x)), some (.d (.str L)), some (.d (.str ⟨#[c]⟩))], rfl, by simp_arith [fIn_c], rfl⟩
  have w : wordT L x = x.cps.toList.all (inLt L) := by
    unfold wordT
    rw [decide_eq_true h1, decide_eq_true h]; rfl
  simp_arith [c_is_word, m_is_word, ty_str, ln, i1, i8, lc, fAll_map, w]
theorem r_is_name {x : Str} (h : NmT x) : c_is_name [.d (.str x)] = some (.d (.bl true), [.d (.str x)]) := by
  have r := r_is_word (L := LCt) h.l8 h.l1
  rw [h.word] at r
  simp_arith [c_is_name, m_is_name, r]
theorem r_is_mark {x : Str} (h : MkT x) : c_is_mark [.d (.str x)] = some (.d (.bl true), [.d (.str x)]) := by
  have r := r_is_word (L := UCt) h.l8 h.l1
  rw [h.word] at r
  simp_arith [c_is_mark, m_is_mark, r]
theorem fLt_s (a b : Str) : fLt (.str a) (.str b) = some (sLt a b) := rfl
theorem neg1 : (-(1 : Int)) = -1 := rfl
theorem ris_core {d : D} {xs : List Str} {o1 o2 : O} (hz : xs.length ≤ 5000000) (h1 : fSlH [d, .int (-1)] = some o1) (h2 : fSlL [d, .int 1] = some o2) (g1 : listOfD o1.toD = some (xs.dropLast.map D.str)) (g2 : listOfD o2.toD = some ((xs.drop 1).map D.str)) :
    c_are_rising [.d d] = some (.d (.bl (risT xs)), [.d d]) := by
  have hl : (xs.dropLast.map D.str).length = ((xs.drop 1).map D.str).length := by simp
  have lc : mLc [1, 2] (iZipS (mOp fSlH [mval (mVar 0), mval (mOp (w1 fNeg) [mval (mC (.int 1))])]) (mOp fSlL [mval (mVar 0), mval (mC (.int 1))])) (gTpS [gNm 1, gNm 2]) tYes (mOp (bO (w2b fLt)) [mval (mVar 1), mval (mVar 2)]) [some (.d d), none, none] =
      some (.lst (leaf ((xs.dropLast.zip (xs.drop 1)).map fun p => D.bl (sLt p.1 p.2))), [some (.d d), none, none]) :=
    x_lcM (emb := fun p : Str × Str => D.tup [.str p.1, .str p.2]) (h := fun p => D.bl (sLt p.1 p.2)) (xs.dropLast.zip (xs.drop 1)) (by simp_arith [neg1, h1, h2, zipK_ok g1 g2 hl, zipD_map]) rfl (by rw [List.length_zip, List.length_dropLast, List.length_drop, sizeLine_eq]; omega) fun p _ =>
      ⟨[some (.d d), some (.d (.str p.1)), some (.d (.str p.2))], rfl, by simp_arith [fLt_s], rfl⟩
  simp_arith [c_are_rising, m_are_rising, lc, fAll_map, risT]
theorem slH_tx {xs : List Str} : fSlH [D.tup (xs.map D.str), .int (-1)] = some (.d (.tup (xs.dropLast.map D.str))) := by
  show some (O.d (.tup (BM.cutD (xs.map D.str) none (some (-1))))) = _
  rw [cut_last, List.map_dropLast]
theorem slL_tx {xs : List Str} : fSlL [D.tup (xs.map D.str), .int 1] = some (.d (.tup ((xs.drop 1).map D.str))) := by
  show some (O.d (.tup (BM.cutD (xs.map D.str) (some ((1 : Nat) : Int)) none))) = _
  rw [cut_from, List.map_drop]
theorem r_risingT {xs : List Str} (hz : xs.length ≤ 5000000) : c_are_rising [.d (.tup (xs.map D.str))] = some (.d (.bl (risT xs)), [.d (.tup (xs.map D.str))]) :=
  ris_core hz slH_tx slL_tx rfl rfl
theorem r_risingL {xs : List Str} (hz : xs.length ≤ 5000000) : c_are_rising [.d (.lst (xs.map D.str))] = some (.d (.bl (risT xs)), [.d (.lst (xs.map D.str))]) :=
  ris_core hz (o1 := .lst (leaf (xs.dropLast.map D.str))) (o2 := .lst (leaf ((xs.drop 1).map D.str))) (by
    show some (O.lst (leaf (BM.cutD (xs.map D.str) none (some (-1))))) = _
    rw [cut_last, List.map_dropLast]) (by
    show some (O.lst (leaf (BM.cutD (xs.map D.str) (some ((1 : Nat) : Int)) none))) = _
    rw [cut_from, List.map_drop]) (by show listOfD (.lst (O.toDs (leaf _))) = _; rw [toDs_leaf]; rfl) (by show listOfD (.lst (O.toDs (leaf _))) = _; rw [toDs_leaf]; rfl)
abbrev plD (xs : List Str) : D := .tup (xs.map D.str)
abbrev psD (pls : List (List Str)) : D := .tup (pls.map plD)
/-- a place with at most five marks -/
def PlT (xs : List Str) : Prop := ∃ many, 1 ≤ many ∧ many ≤ 23 ∧ MksT many xs
structure PlsT (pls : List (List Str)) : Prop where
  len : pls.length ≤ 23
  pl : ∀ xs ∈ pls, PlT xs
theorem r_is_place {xs : List Str} (h : PlT xs) : c_is_place [.d (plD xs)] = some (.d (.bl true), [.d (plD xs)]) := by
  obtain ⟨many, h1, h5, hm⟩ := h
  have hl := hm.len
  have lc : mLc [1] (iSX (mVar 0)) (gNm 1) tYes (mCall c_is_mark [aval (mVar 1)]) [some (.d (plD xs)), none] = some (.lst (leaf (xs.map fun _ => D.bl true)), [some (.d (plD xs)), none]) :=
    x_lcM (emb := D.str) xs (by simp_arith []) rfl (by rw [sizeLine_eq]; omega) fun x hx =>
      ⟨[some (.d (plD xs)), some (.d (.str x))], rfl, by simp_arith [r_is_mark (hm.mks x hx)], rfl⟩
  have ne : (xs.map D.str).isEmpty = false := by
    cases xs with
    | nil => simp at hl; omega
    | cons => rfl
  have al : fAll (.lst (xs.map fun _ => D.bl true)) = some (.d (.bl true)) := by
    rw [fAll_map]
    rw [List.all_eq_true.mpr fun _ _ => rfl]
  have r := r_risingT (xs := xs) (by omega)
  rw [asc_ris hm.asc] at r
  simp_arith [c_is_place, m_is_place, ty_tup, ne, lc, al, r]
theorem r_are_places {pls : List (List Str)} (h : PlsT pls) : c_are_places [.d (psD pls)] = some (.d (.bl true), [.d (psD pls)]) := by
  have lc : mLc [1] (iSX (mVar 0)) (gNm 1) tYes (mCall c_is_place [aval (mVar 1)]) [some (.d (psD pls)), none] = some (.lst (leaf (pls.map fun _ => D.bl true)), [some (.d (psD pls)), none]) :=
    x_lcM (emb := plD) pls (by simp_arith []) rfl (by rw [sizeLine_eq]; have := h.len; omega) fun xs hx =>
      ⟨[some (.d (psD pls)), some (.d (plD xs))], rfl, by simp_arith [r_is_place (h.pl xs hx)], rfl⟩
  have al : fAll (.lst (pls.map fun _ => D.bl true)) = some (.d (.bl true)) := by
    rw [fAll_map]
    rw [List.all_eq_true.mpr fun _ _ => rfl]
  simp_arith [c_are_places, m_are_places, ty_tup, lc, al]
abbrev cpD (p : Str × List Str) : D := .tup [.str p.1, plD p.2]
abbrev csD (cps : List (Str × List Str)) : D := .tup (cps.map cpD)
/-- a row of the places -/
structure RowT (pls : List (List Str)) (r : List Str) : Prop where
  len : r.length = pls.length
  at_ : ∀ (i : Nat) (x : Str) (xs : List Str), r[i]? = some x → pls[i]? = some xs → x ∈ xs
structure CpsT (pls : List (List Str)) (cps : List (Str × List Str)) : Prop where
  len : cps.length ≤ 8
  nm : ∀ p ∈ cps, NmT p.1
  row : ∀ p ∈ cps, RowT pls p.2
  asc : Asc (cps.map (·.1))
theorem r_fits {pls : List (List Str)} (h : PlsT pls) {r : List Str} (hr : RowT pls r) : c_fits_places [.d (psD pls), .d (plD r)] = some (.d (.bl true), [.d (psD pls), .d (plD r)]) := by
  have hl := hr.len
  have h10 := h.len
  have mem : ∀ p ∈ r.zip pls, p.1 ∈ p.2 := fun p hp => by
    obtain ⟨i, hi, e⟩ := List.getElem_of_mem hp
    have hi' : i < r.length ∧ i < pls.length := by rw [List.length_zip] at hi; omega
    rw [List.getElem_zip] at e
    subst e
    exact hr.at_ i _ _ (List.getElem?_eq_getElem hi'.1) (List.getElem?_eq_getElem hi'.2)
  have e0 : decide (((r.length : Nat) : Int) = (pls.length : Nat)) = true := decide_eq_true (by omega)
  have lc : mLc [2, 3] (iZipS (mVar 1) (mVar 0)) (gTpS [gNm 2, gNm 3]) tYes (mAnd (mIsi "str" (mVar 2)) (mOp (bO (w2b fIn)) [mval (mVar 2), mval (mVar 3)])) [some (.d (psD pls)), some (.d (plD r)), none, none] = some (.lst (leaf ((r.zip pls).map fun _ => D.bl true)), [some (.d (psD pls)), some (.d (plD r)), none, none]) :=
    x_lcM (emb := fun p : Str × List Str => D.tup [.str p.1, plD p.2]) (r.zip pls) (by simp_arith [zipK_ok (a := .d (plD r)) (b := .d (psD pls)) (l1 := r.map D.str) (l2 := pls.map plD) rfl rfl (by rw [List.length_map, List.length_map, hl]), zipD_map]) rfl (by rw [List.length_zip, sizeLine_eq]; omega) fun p hp => by
      have hx := mem p hp
      have hq : p.2 ∈ pls := (List.of_mem_zip (show (p.1, p.2) ∈ r.zip pls from hp)).2
      obtain ⟨many, _, _, hm⟩ := h.pl p.2 hq
      have hi : fIn (.str p.1) (plD p.2) = some true := by
        have z := fIn_fo (x := p.1) (g := p.2) ⟨asc_ok (hm.mks _ hx).asc, by have := (hm.mks _ hx).l8; omega⟩ fun y hy => ⟨asc_ok (hm.mks y hy).asc, by have := (hm.mks y hy).l8; omega⟩
        rw [decide_eq_true hx] at z
        exact z
      exact ⟨[some (.d (psD pls)), some (.d (plD r)), some (.d (.str p.1)), some (.d (plD p.2))], rfl, by simp_arith [ty_str, hi], rfl⟩
  have al : fAll (.lst ((r.zip pls).map fun _ => D.bl true)) = some (.d (.bl true)) := by
    rw [fAll_map]
    rw [List.all_eq_true.mpr fun _ _ => rfl]
  simp_arith [c_fits_places, m_fits_places, List.length_map, e0, lc, al]
theorem r_is_copy {pls : List (List Str)} (h : PlsT pls) {p : Str × List Str} (hn : NmT p.1) (hr : RowT pls p.2) : c_is_copy [.d (psD pls), .d (cpD p)] = some (.d (.bl true), [.d (psD pls), .d (cpD p)]) := by
  have i0 : fIx (cpD p) (.int 0) = some (.d (.str p.1)) := rfl
  have i1 : fIx (cpD p) (.int 1) = some (.d (plD p.2)) := rfl
  have e2 : decide ((((0 + 1 + 1 : Nat) : Nat) : Int) = 2) = true := by decide
  simp_arith [c_is_copy, m_is_copy, ty_tup, i0, i1, e2, r_is_name hn, c_is_row, m_is_row, r_fits h hr]
theorem r_are_copies {pls : List (List Str)} (h : PlsT pls) {cps : List (Str × List Str)} (hc : CpsT pls cps) : c_are_copies [.d (psD pls), .d (csD cps)] = some (.d (.bl true), [.d (psD pls), .d (csD cps)]) := by
  have h8 := hc.len
  have lc : mLc [2] (iSX (mVar 1)) (gNm 2) tYes (mCall c_is_copy [aval (mVar 0), aval (mVar 2)]) [some (.d (psD pls)), some (.d (csD cps)), none, none, none] = some (.lst (leaf (cps.map fun _ => D.bl true)), [some (.d (psD pls)), some (.d (csD cps)), none, none, none]) :=
    x_lcM (emb := cpD) cps (by simp_arith []) rfl (by rw [sizeLine_eq]; omega) fun p hp =>
      ⟨[some (.d (psD pls)), some (.d (csD cps)), some (.d (cpD p)), none, none], rfl, by simp_arith [r_is_copy h (hc.nm p hp) (hc.row p hp)], rfl⟩
  have al : fAll (.lst (cps.map fun _ => D.bl true)) = some (.d (.bl true)) := by
    rw [fAll_map]
    rw [List.all_eq_true.mpr fun _ _ => rfl]
  have lc2 : mLc [3, 4] (iSX (mVar 1)) (gTpS [gNm 3, gNm 4]) tYes (mVar 3) [some (.d (psD pls)), some (.d (csD cps)), none, none, none] = some (.lst (leaf (cps.map fun p => D.str p.1)), [some (.d (psD pls)), some (.d (csD cps)), none, none, none]) :=
    x_lcM (emb := cpD) cps (by simp_arith []) rfl (by rw [sizeLine_eq]; omega) fun p hp =>
      ⟨[some (.d (psD pls)), some (.d (csD cps)), none, some (.d (.str p.1)), some (.d (plD p.2))], rfl, by simp_arith [], rfl⟩
  have r := r_risingL (xs := cps.map (·.1)) (by rw [List.length_map]; omega)
  rw [asc_ris hc.asc, List.map_map] at r
  have r : c_are_rising [.d (.lst (cps.map fun p => D.str p.1))] = some (.d (.bl true), [.d (.lst (cps.map fun p => D.str p.1))]) := r
  have r' : c_are_rising [.lst (leaf (cps.map fun p => D.str p.1))] = some (.d (.bl true), [.d (.lst (cps.map fun p => D.str p.1))]) := by
    have z : ∀ o : O, c_are_rising [o] = c_are_rising [.d o.toD] := fun _ => rfl
    rw [z]
    show c_are_rising [.d (.lst (O.toDs (leaf _)))] = _
    rw [toDs_leaf]; exact r
  simp_arith [c_are_copies, m_are_copies, ty_tup, lc, al, lc2, r']
end K39
set_option Elab.async false
set_option linter.all false
set_option maxRecDepth 100000
set_option maxHeartbeats 4000000
namespace K39
open PySem PySem.Spec PyProof.Rows L2 BM
local macro_rules
  | `(tactic| simp_arith [$xs,*]) => `(tactic| simp -implicitDefEqProofs only [↓e_gen, ↓ob_some, ↓oo_some, ↓vr_some, ↓sl_some, ↓al_some, ↓fk_nx, ↓fk_bk, ↓fk_ct, ↓fk_rt, ↓lk_nx, ↓lk_bk, ↓lk_ct, ↓lk_rt, ↓rk_nx, ↓rk_rt, ↓ifk_t, ↓ifk_f, ↓rg1_int, ↓e_pure, ↓e_bind, ↓e_var, ↓e_fz, ↓e_mv, ↓e_C, ↓e_val, ↓e_pl, ↓e_mods0, ↓e_mods, ↓e_get0, ↓e_get, ↓e_getV, ↓e_getP, ↓e_flatD, ↓e_flatL, ↓leafs_leaf, ↓e_leafs0, ↓e_leafsD, ↓e_ops, ↓e_op, ↓e_tst, ↓e_bO, ↓e_w1, ↓e_w2, ↓e_w1b, ↓e_w2b, ↓e_truth1, ↓e_truthB, ↓e_truthI, ↓e_truthN, ↓e_truthL, ↓e_truthT, ↓e_args0, ↓e_args, ↓e_tup, ↓e_lst, ↓e_if, ↓e_sif, ↓e_or, ↓e_and, ↓e_not, ↓e_mnot, ↓e_yes, ↓e_mor, ↓e_mand, ↓e_mset, ↓e_set, ↓e_setO, ↓e_expr, ↓e_ret, ↓e_retN, ↓e_pass, ↓e_break, ↓e_cont, ↓e_seq, ↓e_gNm, ↓e_gTs0, ↓e_gTs, ↓e_gTp, ↓e_gTpST, ↓e_gTpSL, ↓e_tgt, ↓e_sfor, ↓e_for0, ↓e_for, ↓e_wipe0, ↓e_wipe, ↓e_iS, ↓e_listT, ↓e_listL, ↓e_iR1, ↓e_rev, ↓e_aval, ↓e_aplc, ↓e_mars0, ↓e_mars, ↓e_take0, ↓e_takeV, ↓e_takeP, ↓e_give0, ↓e_giveV, ↓e_giveP, ↓e_call, ↓e_callM, ↓e_in0, ↓e_inT, ↓e_inF, ↓e_outs0, ↓e_outsT, ↓e_outsF, ↓e_permF, ↓e_permL0, ↓e_permL, ↓pcons_some, ↓e_app, ↓e_msetB0, ↓e_msetB1, ↓e_par, ↓e_par3, ↓e_fld, ↓e_obj, ↓e_make, ↓mkK_ok, ↓e_enA, ↓e_rv, ↓e_dctS, ↓e_lrg, ↓e_isi, ↓e_upper, ↓e_revX, ↓revX_t, ↓e_iSX, ↓e_dct0, ↓e_chn, ↓chK_eq, ↓e_zipS, ↓e_zipL, ↓e_zipV, ↓e_fr, ↓e_zipT, ↓e_lower, ↓e_seqL, ↓e_seqT, ↓e_seqS, ↓e_fListXL, ↓e_fListXT, ↓e_join2, ↓joinK_str, ↓e_join, e_fEqZT, e_fEqZL, e_fNeZT, e_fNeZL, e_toD, e_toL, toDs_leaf, e_toDs0, e_toDs, e_fAddI, e_fSubI,  e_fLtI, e_fLeI, e_fGtI, e_fGeI, e_fEqI, e_fEqS, e_fEqB, ↓e_fNe, ↓e_fNotIn, ↓e_fIsN, e_fLenL, e_fLenT, e_fListL, e_fListT, e_fTupL, e_fTupT, e_fMin, e_fMax, e_fNegI,
      List.getElem?_cons_succ, List.getElem?_cons_zero, List.set_cons_succ, List.set_cons_zero, List.length_cons, List.length_nil, List.replicate_succ, List.replicate_zero, List.cons_append, List.nil_append, Nat.reduceAdd, Nat.reduceLT, Nat.reduceEqDiff, if_true, if_false, and_self, ite_true, ite_false, Bool.false_eq_true, Bool.not_true, Bool.not_false, Bool.or_true, Bool.true_or, decide_true, decide_false, eq_self, $xs,*])
abbrev bk (C : Addr) (pls : List (List Str)) (cps : List (Str × List Str)) : D := .obj C [("places" : Str), ("copies" : Str)] [psD pls, csD cps]
section
variable {C : Addr} {pls : List (List Str)} {cps : List (Str × List Str)} {s : BM.Env}
theorem f_places : fldK C ("places" : Str) (.d (bk C pls cps)) s = some (.d (psD pls), s) := by
  unfold fldK mFld mpure
  simp only [e_toD]
  rw [if_pos trivial]; rfl
theorem f_copies : fldK C ("copies" : Str) (.d (bk C pls cps)) s = some (.d (csD cps), s) := by
  unfold fldK mFld mpure
  simp only [e_toD]
  rw [if_pos trivial]; rfl
end
theorem r_Book {pls : List (List Str)} {cps : List (Str × List Str)} (C : Addr) (hp : PlsT pls) (hc : CpsT pls cps) : c_Book___init__ C [.obj C [] [], .d (psD pls), .d (csD cps)] = some (.d .non, [.obj C [("places" : Str), ("copies" : Str)] [.d (psD pls), .d (csD cps)], .d (psD pls), .d (csD cps)]) := by
  have s1 : ∀ s : BM.Env, s[1]? = some (some (.d (psD pls))) → s[0]? = some (some (.obj C [] [])) → sFldP 0 C ("places" : Str) (mVar 1) s = some (.nx, s.set 0 (some (.obj C [("places" : Str)] [.d (psD pls)]))) := fun s h1 h0 => by
    unfold sFldP mVar
    simp only [h1, h0]
    rw [if_pos ⟨trivial, by decide +kernel, rfl, by decide⟩]; rfl
  have s2 : ∀ s : BM.Env, s[2]? = some (some (.d (csD cps))) → s[0]? = some (some (.obj C [("places" : Str)] [.d (psD pls)])) → sFldP 0 C ("copies" : Str) (mVar 2) s = some (.nx, s.set 0 (some (.obj C [("places" : Str), ("copies" : Str)] [.d (psD pls), .d (csD cps)]))) := fun s h1 h0 => by
    unfold sFldP mVar
    simp only [h1, h0]
    rw [if_pos ⟨trivial, by decide +kernel, rfl, by decide⟩]; rfl
  simp_arith [c_Book___init__, m_Book___init__, r_are_places hp, r_are_copies hp hc]
  rw [s1 _ rfl rfl]
  simp_arith []
  rw [s2 _ rfl rfl]
  simp_arith []
end K39
set_option Elab.async false
set_option linter.all false
set_option maxRecDepth 100000
set_option maxHeartbeats 4000000
namespace K39
open PySem PySem.Spec PyProof.Rows L2 BM
local macro_rules
  | `(tactic| simp_arith [$xs,*]) => `(tactic| simp -implicitDefEqProofs only [↓e_gen, ↓ob_some, ↓oo_some, ↓vr_some, ↓sl_some, ↓al_some, ↓fk_nx, ↓fk_bk, ↓fk_ct, ↓fk_rt, ↓lk_nx, ↓lk_bk, ↓lk_ct, ↓lk_rt, ↓rk_nx, ↓rk_rt, ↓ifk_t, ↓ifk_f, ↓rg1_int, ↓e_pure, ↓e_bind, ↓e_var, ↓e_fz, ↓e_mv, ↓e_C, ↓e_val, ↓e_pl, ↓e_mods0, ↓e_mods, ↓e_get0, ↓e_get, ↓e_getV, ↓e_getP, ↓e_flatD, ↓e_flatL, ↓leafs_leaf, ↓e_leafs0, ↓e_leafsD, ↓e_ops, ↓e_op, ↓e_tst, ↓e_bO, ↓e_w1, ↓e_w2, ↓e_w1b, ↓e_w2b, ↓e_truth1, ↓e_truthB, ↓e_truthI, ↓e_truthN, ↓e_truthL, ↓e_truthT, ↓e_args0, ↓e_args, ↓e_tup, ↓e_lst, ↓e_if, ↓e_sif, ↓e_or, ↓e_and, ↓e_not, ↓e_mnot, ↓e_yes, ↓e_mor, ↓e_mand, ↓e_mset, ↓e_set, ↓e_setO, ↓e_expr, ↓e_ret, ↓e_retN, ↓e_pass, ↓e_break, ↓e_cont, ↓e_seq, ↓e_gNm, ↓e_gTs0, ↓e_gTs, ↓e_gTp, ↓e_gTpST, ↓e_gTpSL, ↓e_tgt, ↓e_sfor, ↓e_for0, ↓e_for, ↓e_wipe0, ↓e_wipe, ↓e_iS, ↓e_listT, ↓e_listL, ↓e_iR1, ↓e_rev, ↓e_aval, ↓e_aplc, ↓e_mars0, ↓e_mars, ↓e_take0, ↓e_takeV, ↓e_takeP, ↓e_give0, ↓e_giveV, ↓e_giveP, ↓e_call, ↓e_callM, ↓e_in0, ↓e_inT, ↓e_inF, ↓e_outs0, ↓e_outsT, ↓e_outsF, ↓e_permF, ↓e_permL0, ↓e_permL, ↓pcons_some, ↓e_app, ↓e_msetB0, ↓e_msetB1, ↓e_par, ↓e_par3, ↓e_fld, ↓e_obj, ↓e_make, ↓mkK_ok, ↓e_enA, ↓e_rv, ↓e_dctS, ↓e_lrg, ↓e_isi, ↓e_upper, ↓e_revX, ↓revX_t, ↓e_iSX, ↓e_dct0, ↓e_chn, ↓chK_eq, ↓e_zipS, ↓e_zipL, ↓e_zipV, ↓e_fr, ↓e_zipT, ↓e_lower, ↓e_seqL, ↓e_seqT, ↓e_seqS, ↓e_fListXL, ↓e_fListXT, ↓e_join2, ↓joinK_str, ↓e_join, e_fEqZT, e_fEqZL, e_fNeZT, e_fNeZL, e_toD, e_toL, toDs_leaf, e_toDs0, e_toDs, e_fAddI, e_fSubI,  e_fLtI, e_fLeI, e_fGtI, e_fGeI, e_fEqI, e_fEqS, e_fEqB, ↓e_fNe, ↓e_fNotIn, ↓e_fIsN, e_fLenL, e_fLenT, e_fListL, e_fListT, e_fTupL, e_fTupT, e_fMin, e_fMax, e_fNegI,
      List.getElem?_cons_succ, List.getElem?_cons_zero, List.set_cons_succ, List.set_cons_zero, List.length_cons, List.length_nil, List.replicate_succ, List.replicate_zero, List.cons_append, List.nil_append, Nat.reduceAdd, Nat.reduceLT, Nat.reduceEqDiff, if_true, if_false, and_self, ite_true, ite_false, Bool.false_eq_true, Bool.not_true, Bool.not_false, Bool.or_true, Bool.true_or, decide_true, decide_false, eq_self, $xs,*])
def nmB (x : Str) : Bool := decide (1 ≤ x.length) && decide (x.length ≤ 8) && x.cps.toList.all fun c => decide (97 ≤ c) && decide (c ≤ 122)
def mkB (x : Str) : Bool := decide (1 ≤ x.length) && decide (x.length ≤ 8) && x.cps.toList.all fun c => decide (65 ≤ c) && decide (c ≤ 90)
theorem nmB_iff {x : Str} (h : nmB x = true) : NmT x := by
  unfold nmB at h
  simp only [Bool.and_eq_true, decide_eq_true_eq, List.all_eq_true] at h
  exact ⟨h.1.1, h.1.2, h.2⟩
theorem mkB_iff {x : Str} (h : mkB x = true) : MkT x := by
  unfold mkB at h
  simp only [Bool.and_eq_true, decide_eq_true_eq, List.all_eq_true] at h
  exact ⟨h.1.1, h.1.2, h.2⟩
def nm5 : List Str := [("b" : Str), ("bb" : Str), ("abcdefgh" : Str), ("zz" : Str), ("ba" : Str)]
theorem nm5_nm : ∀ x ∈ nm5, NmT x := fun x hx => nmB_iff (List.all_eq_true.mp (show nm5.all nmB = true by decide +kernel) x hx)
abbrev Cps := List (Str × List Str)
def ltrs (p : Nat) : List Str := (List.range p).map ltr
def plcF (p w : Nat) : List (List Str) := List.replicate w (ltrs p)
def rowF (p w : Nat) (cs : List Nat) : List Str := (rowI p w cs).map ltr
def cpsF (p w : Nat) (cs : List Cq) : Cps := cs.map fun c => (c.1, rowF p w c.2)
def ltrsB : Bool := (List.range 24).all fun p => (ltrs p).all mkB
theorem ltrs_B : ltrsB = true := by decide +kernel
theorem ltrs_asc : ∀ p, p < 24 → Asc (ltrs p) := by unfold Asc ltrs; decide +kernel
theorem ltrs_pl {p : Nat} (h1 : 1 ≤ p) (h7 : p ≤ 23) : PlT (ltrs p) := by
  refine ⟨p, h1, h7, ⟨by unfold ltrs; rw [List.length_map, List.length_range], fun x hx => ?_, ltrs_asc p (by omega)⟩⟩
  have z := ltrs_B
  unfold ltrsB at z
  rw [List.all_eq_true] at z
  exact mkB_iff (List.all_eq_true.mp (z p (List.mem_range.mpr (by omega))) x hx)
theorem rowF_len (p w : Nat) (cs : List Nat) : (rowF p w cs).length = w := by
  unfold rowF rowI
  rw [List.length_map, List.length_map, List.length_range]
theorem rowF_ix {p w : Nat} {cs : List Nat} {i : Nat} (hi : i < w) : (rowF p w cs)[i]? = some (ltr (rowv p cs i)) := by
  unfold rowF rowI
  rw [List.getElem?_map, List.getElem?_map, List.getElem?_range hi]; rfl
theorem mem_ltrs {p i : Nat} (h : i < p) : ltr i ∈ ltrs p := List.mem_map.mpr ⟨i, List.mem_range.mpr h, rfl⟩
structure CpT (p k : Nat) (cs : List Cq) : Prop where
  nm : ∀ c ∈ cs, c.1 ∈ nm5
  nd : (cs.map (·.1)).Nodup
  len : ∀ c ∈ cs, c.2.length = k
  lt : ∀ c ∈ cs, ∀ x ∈ c.2, x < p
theorem CpT.l5 {p k : Nat} {cs : List Cq} (h : CpT p k cs) : cs.length ≤ 5 := by
  have z := List.Nodup.length_le_of_subset (l₂ := nm5) h.nd fun x hx => by
    obtain ⟨c, hc, rfl⟩ := List.mem_map.mp hx
    exact h.nm c hc
  rw [List.length_map] at z
  exact z
theorem CpT.perm {p k : Nat} {cs ds : List Cq} (h : CpT p k cs) (q : ds.Perm cs) : CpT p k ds :=
  ⟨fun c hc => h.nm c (q.subset hc), ((q.map _).nodup_iff).mpr h.nd, fun c hc => h.len c (q.subset hc), fun c hc => h.lt c (q.subset hc)⟩
def insC (c : Cq) : List Cq → List Cq
  | [] => [c]
  | d :: l => if sLt c.1 d.1 = true then c :: d :: l else d :: insC c l
def srtC (l : List Cq) : List Cq := l.foldr insC []
theorem insC_perm (c : Cq) : ∀ l : List Cq, (insC c l).Perm (c :: l)
  | [] => List.Perm.refl _
  | d :: l => by
    unfold insC
    split
    · exact List.Perm.refl _
    · exact ((insC_perm c l).cons d).trans (List.Perm.swap _ _ _)
theorem srtC_perm : ∀ l : List Cq, (srtC l).Perm l
  | [] => List.Perm.refl _
  | c :: l => (insC_perm c _).trans ((srtC_perm l).cons c)
theorem insC_asc {c : Cq} : ∀ {l : List Cq}, l.Pairwise (fun a b => sLt a.1 b.1 = true) → (∀ d ∈ l, c.1 ≠ d.1) → (insC c l).Pairwise fun a b => sLt a.1 b.1 = true
  | [], _, _ => List.pairwise_singleton _ _
  | d :: l, h, hn => by
    obtain ⟨h1, h2⟩ := List.pairwise_cons.mp h
    unfold insC
    by_cases e : sLt c.1 d.1 = true
    · rw [if_pos e]
      refine List.pairwise_cons.mpr ⟨fun x hx => ?_, h⟩
      rcases List.mem_cons.mp hx with rfl | hx
      · exact e
      · exact sLt_trans e (h1 x hx)
    · rw [if_neg e]
      refine List.pairwise_cons.mpr ⟨fun x hx => ?_, insC_asc h2 fun d hd => hn d (List.mem_cons_of_mem _ hd)⟩
      rcases List.mem_cons.mp ((insC_perm c l).subset hx) with rfl | hx
      · exact (sLt_total (hn d List.mem_cons_self)).resolve_left e
      · exact h1 x hx
theorem srtC_asc : ∀ {l : List Cq}, (l.map (·.1)).Nodup → (srtC l).Pairwise fun a b => sLt a.1 b.1 = true
  | [], _ => List.Pairwise.nil
  | c :: l, nd => by
    rw [List.map_cons, List.nodup_cons] at nd
    refine insC_asc (srtC_asc nd.2) fun d hd e => nd.1 ?_
    rw [e]
    exact List.mem_map.mpr ⟨d, (srtC_perm l).subset hd, rfl⟩
/-- sorting does not mind the order -/
theorem srtC_same {l m : List Cq} (nd : (l.map (·.1)).Nodup) (p : l.Perm m) : srtC l = srtC m := by
  refine List.Perm.eq_of_pairwise (le := fun a b => sLt a.1 b.1 = true) (fun a b _ _ h1 h2 => ?_) (srtC_asc nd) (srtC_asc (((p.map _).nodup_iff).mp nd)) ((srtC_perm l).trans (p.trans (srtC_perm m).symm))
  rw [sLt_asymm h1] at h2
  cases h2
theorem dataLt_str2 {a b : Str} {x y : PyData} (h : sLt a b = true) : PySem.W.dataLt (.tuple [.str a, x]) (.tuple [.str b, y]) = true := by
  rw [PySem.W.dataLt_tuple]
  have ne : PyData.eqv (.str a) (.str b) = false := by
    show (a == b) = false
    rw [beq_eq_false_iff_ne]
    intro z
    rw [z, sLt_irrefl] at h; cases h
  rw [PySem.W.dataLt_all_no rfl ne, PySem.W.dataLt_str]
  exact h
theorem py_pair {a : Str} {X : D} {q : PyData} (h : D.py X = some q) : D.py (.tup [.str a, X]) = some (.tuple [.str a, q]) := by simp only [D.py, D.pys, h]
theorem py_dns : ∀ l : List Nat, D.py (dns l) = some (.tuple (l.map fun x => .int ((x : Nat) : Int))) := fun l => by
  have e : ∀ l : List Nat, D.pys (l.map dn) = some (l.map fun x => PyData.int ((x : Nat) : Int)) := by
    intro l
    induction l with
    | nil => rfl
    | cons x l ih => rw [List.map_cons, D.pys, ih]; rfl
  rw [D.py, e]
theorem alike_ints : ∀ a b : List Nat, PySem.W.alikeAll (a.map fun x => PyData.int ((x : Nat) : Int)) (b.map fun x => PyData.int ((x : Nat) : Int)) = true
  | [], b => by cases b <;> rfl
  | _ :: _, [] => rfl
  | x :: a, y :: b => by
    rw [List.map_cons, List.map_cons]
    show (PySem.W.alike (.int _) (.int _) && PySem.W.alikeAll _ _) = true
    rw [alike_ints a b]; rfl
section
variable {α : Type} {f : α → Str} {X : α → D} {q : α → PyData}
/-- pairs of a text and a value, the texts all unlike: by the text -/
theorem sort_pairs {l l' : List α} (hq : ∀ c ∈ l, D.py (X c) = some (q c)) (hd : ∀ c ∈ l, (q c).depth ≤ 40) (hA : ∀ a ∈ l, ∀ b ∈ l, PySem.W.alike (q a) (q b) = true) (p : l.Perm l') (h : l'.Pairwise fun a b => sLt (f a) (f b) = true) (hz : l.length ≤ 1000) :
    fSortedE (.lst (l.map fun c => D.tup [.str (f c), X c])) = some (.lst (leaf (l'.map fun c => D.tup [.str (f c), X c]))) := by
  have py : ∀ c ∈ l, pyD (D.tup [.str (f c), X c]) = .tuple [.str (f c), q c] ∧ (D.py (D.tup [.str (f c), X c])).isSome = true := fun c hc => by
    have z := py_pair (a := f c) (hq c hc)
    exact ⟨pyD_some z, by rw [z]; rfl⟩
  have em : (l.map fun c => D.tup [.str (f c), X c]).map pyD = l.map fun c => PyData.tuple [.str (f c), q c] := by
    rw [List.map_map]; exact List.map_congr_left fun c hc => (py c hc).1
  have so : sortOkE (l.map fun c => D.tup [.str (f c), X c]) = true := by
    unfold sortOkE
    rw [em, decide_eq_true (by rw [List.length_map, sizeLine_eq]; omega)]
    simp only [Bool.and_eq_true, Bool.and_true, Bool.or_eq_true]
    refine ⟨⟨⟨?_, ?_⟩, .inl ?_⟩, ?_⟩
    · rw [List.all_map, List.all_eq_true]; intro c hc; exact (py c hc).2
    · rw [List.all_eq_true]; intro x hx
      rw [List.all_eq_true]; intro y hy
      obtain ⟨a, ha, rfl⟩ := List.mem_map.mp hx
      obtain ⟨b, hb, rfl⟩ := List.mem_map.mp hy
      show (PySem.W.alike (.str (f a)) (.str (f b)) && (PySem.W.alike (q a) (q b) && true)) = true
      rw [hA a ha b hb]; rfl
    · rw [List.all_map, List.all_eq_true]; intro c _; rfl
    · rw [List.all_map, List.all_eq_true]; intro c hc
      have d := hd c hc
      show decide ((PyData.tuple [.str (f c), q c]).depth ≤ 60) = true
      refine decide_eq_true ?_
      simp only [PyData.depth, PyData.depthAll]
      omega
  rw [e_fSortedEL so, srt_unique (p.map _)]
  rw [List.pairwise_map]
  refine List.Pairwise.imp_of_mem (fun {a b} ha hb z => ?_) h
  rw [(py a (p.symm.subset ha)).1, (py b (p.symm.subset hb)).1]
  exact dataLt_str2 z
end
section
variable {p w k : Nat} {cs : List Cq}
theorem sort_cq (h : CpT p k cs) : fSortedE (.lst (cs.map cqD)) = some (.lst (leaf ((srtC cs).map cqD))) := by
  refine sort_pairs (f := fun c : Cq => c.1) (X := fun c => dns c.2) (q := fun c => .tuple (c.2.map fun x => .int ((x : Nat) : Int))) (fun c _ => py_dns c.2) (fun c _ => ?_) (fun a _ b _ => ?_) (srtC_perm cs).symm (srtC_asc h.nd) (by have := h.l5; omega)
  · have e : ∀ l : List Nat, PyData.depthAll (l.map fun x => PyData.int ((x : Nat) : Int)) ≤ 1 := by
      intro l
      induction l with
      | nil => decide
      | cons x l ih => rw [List.map_cons, PyData.depthAll, PyData.depth]; omega
    have := e c.2
    simp only [PyData.depth]
    omega
  · rw [PySem.W.alike]; exact alike_ints _ _
theorem sort_cp (h : CpT p k cs) : fSortedE (.lst ((cpsF p w cs).map cpD)) = some (.lst (leaf ((cpsF p w (srtC cs)).map cpD))) := by
  have e : ∀ l : List Cq, (cpsF p w l).map cpD = l.map fun c => D.tup [.str c.1, fo (rowF p w c.2)] := fun l => by unfold cpsF; rw [List.map_map]; rfl
  rw [e, e]
  refine sort_pairs (f := fun c : Cq => c.1) (X := fun c => fo (rowF p w c.2)) (q := fun c => gT (rowF p w c.2)) (fun c _ => py_fo _) (fun c _ => ?_) (fun a _ b _ => ?_) (srtC_perm cs).symm (srtC_asc h.nd) (by have := h.l5; omega)
  · rw [depth_gT]; decide
  · unfold gT; rw [PySem.W.alike]; exact alike_strT _ _
theorem plsF (h1 : 1 ≤ p) (h7 : p ≤ 23) (hw : w ≤ 23) : PlsT (plcF p w) := ⟨by unfold plcF; rw [List.length_replicate]; omega, fun xs hx => by rw [(List.mem_replicate.mp hx).2]; exact ltrs_pl h1 h7⟩
theorem cpsT (h1 : 1 ≤ p) (h : CpT p k cs) (ha : cs.Pairwise fun a b => sLt a.1 b.1 = true) : CpsT (plcF p w) (cpsF p w cs) := by
  have l5 := h.l5
  refine ⟨by unfold cpsF; rw [List.length_map]; omega, fun q hq => ?_, fun q hq => ?_, ?_⟩
  · obtain ⟨c, hc2, rfl⟩ := List.mem_map.mp hq
    exact nm5_nm _ (h.nm c hc2)
  · obtain ⟨c, hc2, rfl⟩ := List.mem_map.mp hq
    refine ⟨by show (rowF p w c.2).length = _; rw [rowF_len]; unfold plcF; rw [List.length_replicate], fun i x xs h2 h3 => ?_⟩
    have hi : i < w := by
      have := (List.getElem?_eq_some_iff.mp h3).1
      unfold plcF at this
      rw [List.length_replicate] at this; exact this
    have h2 : (rowF p w c.2)[i]? = some x := h2
    rw [rowF_ix hi] at h2
    unfold plcF at h3
    rw [List.getElem?_replicate, if_pos hi] at h3
    rw [← Option.some.inj h2, ← Option.some.inj h3]
    exact mem_ltrs (Nat.mod_lt _ h1)
  · unfold cpsF Asc
    rw [List.map_map, List.pairwise_map]
    exact ha
end
end K39
set_option Elab.async false
set_option linter.all false
set_option maxRecDepth 100000
set_option maxHeartbeats 4000000
namespace K39
open PySem PySem.Spec PyProof.Rows L2 BM
local macro_rules
  | `(tactic| simp_arith [$xs,*]) => `(tactic| simp -implicitDefEqProofs only [↓e_gen, ↓ob_some, ↓oo_some, ↓vr_some, ↓sl_some, ↓al_some, ↓fk_nx, ↓fk_bk, ↓fk_ct, ↓fk_rt, ↓lk_nx, ↓lk_bk, ↓lk_ct, ↓lk_rt, ↓rk_nx, ↓rk_rt, ↓ifk_t, ↓ifk_f, ↓rg1_int, ↓e_pure, ↓e_bind, ↓e_var, ↓e_fz, ↓e_mv, ↓e_C, ↓e_val, ↓e_pl, ↓e_mods0, ↓e_mods, ↓e_get0, ↓e_get, ↓e_getV, ↓e_getP, ↓e_flatD, ↓e_flatL, ↓leafs_leaf, ↓e_leafs0, ↓e_leafsD, ↓e_ops, ↓e_op, ↓e_tst, ↓e_bO, ↓e_w1, ↓e_w2, ↓e_w1b, ↓e_w2b, ↓e_truth1, ↓e_truthB, ↓e_truthI, ↓e_truthN, ↓e_truthL, ↓e_truthT, ↓e_args0, ↓e_args, ↓e_tup, ↓e_lst, ↓e_if, ↓e_sif, ↓e_or, ↓e_and, ↓e_not, ↓e_mnot, ↓e_yes, ↓e_mor, ↓e_mand, ↓e_mset, ↓e_set, ↓e_setO, ↓e_expr, ↓e_ret, ↓e_retN, ↓e_pass, ↓e_break, ↓e_cont, ↓e_seq, ↓e_gNm, ↓e_gTs0, ↓e_gTs, ↓e_gTp, ↓e_gTpST, ↓e_gTpSL, ↓e_tgt, ↓e_sfor, ↓e_for0, ↓e_for, ↓e_wipe0, ↓e_wipe, ↓e_iS, ↓e_listT, ↓e_listL, ↓e_iR1, ↓e_rev, ↓e_aval, ↓e_aplc, ↓e_mars0, ↓e_mars, ↓e_take0, ↓e_takeV, ↓e_takeP, ↓e_give0, ↓e_giveV, ↓e_giveP, ↓e_call, ↓e_callM, ↓e_in0, ↓e_inT, ↓e_inF, ↓e_outs0, ↓e_outsT, ↓e_outsF, ↓e_permF, ↓e_permL0, ↓e_permL, ↓pcons_some, ↓e_app, ↓e_msetB0, ↓e_msetB1, ↓e_par, ↓e_par3, ↓e_fld, ↓e_obj, ↓e_make, ↓mkK_ok, ↓e_enA, ↓e_rv, ↓e_dctS, ↓e_lrg, ↓e_isi, ↓e_upper, ↓e_revX, ↓revX_t, ↓e_iSX, ↓e_dct0, ↓e_chn, ↓chK_eq, ↓e_zipS, ↓e_zipL, ↓e_zipV, ↓e_fr, ↓e_zipT, ↓e_lower, ↓e_seqL, ↓e_seqT, ↓e_seqS, ↓e_fListXL, ↓e_fListXT, ↓e_join2, ↓joinK_str, ↓e_join, e_fEqZT, e_fEqZL, e_fNeZT, e_fNeZL, e_toD, e_toL, toDs_leaf, e_toDs0, e_toDs, e_fAddI, e_fSubI,  e_fLtI, e_fLeI, e_fGtI, e_fGeI, e_fEqI, e_fEqS, e_fEqB, ↓e_fNe, ↓e_fNotIn, ↓e_fIsN, e_fLenL, e_fLenT, e_fListL, e_fListT, e_fTupL, e_fTupT, e_fMin, e_fMax, e_fNegI,
      List.getElem?_cons_succ, List.getElem?_cons_zero, List.set_cons_succ, List.set_cons_zero, List.length_cons, List.length_nil, List.replicate_succ, List.replicate_zero, List.cons_append, List.nil_append, Nat.reduceAdd, Nat.reduceLT, Nat.reduceEqDiff, if_true, if_false, and_self, ite_true, ite_false, Bool.false_eq_true, Bool.not_true, Bool.not_false, Bool.or_true, Bool.true_or, decide_true, decide_false, eq_self, $xs,*])
theorem list_abc : ∀ p, p < 24 → ∃ x : Str, fSlH [.str ("ABCDEFGHIJKLMNOPQRSTUVWXYZ" : Str), .int ((p : Nat) : Int)] = some (.d (.str x)) ∧ x.cps.size ≤ sizeLine ∧ sgs x = (ltrs p).map D.str := by
  intro p hp
  refine ⟨cutS ("ABCDEFGHIJKLMNOPQRSTUVWXYZ" : Str) none (some ((p : Nat) : Int)), fSlH_s (by decide +kernel), ?_, ?_⟩
  · have := (BM.asc_cut (x := ("ABCDEFGHIJKLMNOPQRSTUVWXYZ" : Str)) none (some ((p : Nat) : Int)) (by decide +kernel)).2
    have l : ("ABCDEFGHIJKLMNOPQRSTUVWXYZ" : Str).length = 26 := by decide +kernel
    have : (cutS ("ABCDEFGHIJKLMNOPQRSTUVWXYZ" : Str) none (some ((p : Nat) : Int))).cps.size ≤ 26 := by rw [← l]; exact this
    rw [sizeLine_eq]; omega
  · unfold sgs ltrs
    rw [List.map_map]
    have e : ∀ p, p < 24 → (cutS ("ABCDEFGHIJKLMNOPQRSTUVWXYZ" : Str) none (some ((p : Nat) : Int))).cps.toList = (List.range p).map fun i => 65 + i := by decide +kernel
    rw [e p hp, List.map_map]
    rfl
theorem flat_rep (d : D) : ∀ k, (List.replicate k [d]).flatten = List.replicate k d
  | 0 => rfl
  | k + 1 => by rw [List.replicate_succ, List.flatten_cons, flat_rep d k, List.replicate_succ]; rfl
section
variable {B F : Addr} {p w k : Nat} {cs : List Cq}
theorem r_bookof (h1 : 1 ≤ p) (h7 : p ≤ 23) (hw : w ≤ 23) (hc : CpT p k cs) : c_Formula_book_of B F [.d (fob F p w k), .d (cqsD cs)] = some (.obj B [("places" : Str), ("copies" : Str)] [.d (psD (plcF p w)), .d (csD (cpsF p w (srtC cs)))], [.d (fob F p w k), .d (cqsD cs)]) := by
  have bo := r_Book B (plsF h1 h7 hw) (cpsT (w := w) h1 (hc.perm (srtC_perm cs)) (srtC_asc hc.nd))
  have l8 : cs.length ≤ 8 := by have := hc.l5; omega
  have rowD : ∀ c : List Nat, drow p w c = plD (rowF p w c) := fun c => by
    show D.tup ((rowI p w c).map dl) = D.tup (((rowI p w c).map ltr).map D.str)
    rw [List.map_map]; rfl
  have lc : mLc [3, 4] (iSX (mVar 1)) (gTpS [gNm 3, gNm 4]) (tYes) (mTup [mVar 3, mCall (c_Formula_row F) [aval (mObj F ("row" : Str) (mVar 0)), aval (mVar 4)]]) [some (.d (fob F p w k)), some (.d (cqsD cs)), none, none, none]
      = some (.lst (leaf ((cpsF p w cs).map cpD)), [some (.d (fob F p w k)), some (.d (cqsD cs)), none, none, none]) := by
    have e : (cpsF p w cs).map cpD = cs.map fun c => cpD (c.1, rowF p w c.2) := by unfold cpsF; rw [List.map_map]; rfl
    rw [e]
    refine x_lcM (emb := cqD) (s1 := [some (.d (fob F p w k)), some (.d (cqsD cs)), none, none, none]) (h := fun c => cpD (c.1, rowF p w c.2)) cs (by generalize fob F p w k = FF; simp_arith []) rfl (by rw [sizeLine_eq]; omega) fun c hc2 => ?_
    have fr := r_frow (C := F) (k := k) c.2 (by omega : 0 < p) (by omega) (by omega : w ≤ 1000)
    rw [rowD] at fr
    have oh : ∀ s : BM.Env, objK F ("row" : Str) (.d (fob F p w k)) s = some (.d (fob F p w k), s) := fun s => o_row
    refine ⟨[some (.d (fob F p w k)), some (.d (cqsD cs)), none, some (.d (.str c.1)), some (.d (dns c.2))], ?_, ?_, rfl⟩
    · generalize fob F p w k = FF at *
      generalize cqsD cs = CC at *
      simp_arith []
    · show _ = some (O.d (.tup [.str c.1, plD (rowF p w c.2)]), _)
      generalize fob F p w k = FF at *
      generalize cqsD cs = CC at *
      generalize plD (rowF p w c.2) = RR at *
      generalize dns c.2 = NN at *
      simp_arith [oh, fr]
  have lz : ((cpsF p w cs).map cpD).length ≤ sizeLine := by unfold cpsF; rw [List.length_map, List.length_map, sizeLine_eq]; omega
  have se : fSortedE (.lst ((cpsF p w cs).map cpD)) = some (.lst (leaf ((cpsF p w (srtC cs)).map cpD))) := sort_cp hc
  obtain ⟨x, x1, x2, x3⟩ := list_abc p (by omega)
  have lx : fListX (.str x) = some (.lst (leaf ((ltrs p).map D.str))) := by
    show (if x.cps.size ≤ sizeLine then some (O.lst (leaf (sgs x))) else none) = _
    rw [if_pos x2, x3]
  have t1 : fTuple (.lst ((ltrs p).map D.str)) = some (.d (plD (ltrs p))) := rfl
  have mu := fMulY_ok (a := [plD (ltrs p)]) (by simp) (by simp) (k := w) (by omega)
  rw [flat_rep] at mu
  have mu : fMulY (.tup [plD (ltrs p)]) (.int ((w : Nat) : Int)) = some (.d (psD (plcF p w))) := by
    rw [mu]
    unfold plcF
    rw [psD, List.map_replicate]
  have tu : fTuple (.lst ((cpsF p w (srtC cs)).map cpD)) = some (.d (csD (cpsF p w (srtC cs)))) := rfl
  have fp : ∀ s : BM.Env, fldK F ("prime" : Str) (.d (fob F p w k)) s = some (.d (dn p), s) := fun s => q_prime
  have fw : ∀ s : BM.Env, fldK F ("places" : Str) (.d (fob F p w k)) s = some (.d (dn w), s) := fun s => q_places
  unfold c_Formula_book_of m_Formula_book_of
  generalize mLc [3, 4] (iSX (mVar 1)) (gTpS [gNm 3, gNm 4]) (tYes) (mTup [mVar 3, mCall (c_Formula_row F) [aval (mObj F ("row" : Str) (mVar 0)), aval (mVar 4)]]) = wc at lc ⊢
  generalize fob F p w k = FF at *
  generalize cqsD cs = CC at *
  generalize psD (plcF p w) = PP at *
  generalize csD (cpsF p w (srtC cs)) = KK at *
  generalize (cpsF p w cs).map cpD = LL at *
  generalize (cpsF p w (srtC cs)).map cpD = LM at *
  generalize (ltrs p).map D.str = AA at *
  generalize plD (ltrs p) = BB at *
  simp_arith [lc, toDs_leaf, se, fp, x1, lx, t1, fw, mu, tu, bo]
theorem r_made (h1 : 1 ≤ p) (h7 : p ≤ 23) (hw : w ≤ 23) (hc : CpT p k cs) : ∃ o, c_l_made B F [.d (fob F p w k), .d (.lst (cs.map cqD))] = some (o, [.d (fob F p w k), .d (.lst (cs.map cqD))]) ∧ o.toD = bk B (plcF p w) (cpsF p w (srtC cs)) := by
  have kb := r_bookof (B := B) (F := F) (w := w) h1 h7 hw hc
  have tb : O.toD (.obj B [("places" : Str), ("copies" : Str)] [.d (psD (plcF p w)), .d (csD (cpsF p w (srtC cs)))]) = bk B (plcF p w) (cpsF p w (srtC cs)) := by rw [O.toD, O.toDs, O.toDs, O.toDs, O.toD, O.toD]
  refine ⟨_, ?_, tb⟩
  have l6 : cs.length ≤ 5 := hc.l5
  clear tb
  clear hc
  generalize O.obj B [("places" : Str), ("copies" : Str)] [.d (psD (plcF p w)), .d (csD (cpsF p w (srtC cs)))] = R at *
  have oh : ∀ s : BM.Env, objK F ("book_of" : Str) (.d (fob F p w k)) s = some (.d (fob F p w k), s) := fun s => by
    unfold objK mObj mpure
    simp only [e_toD]
    rw [if_pos ⟨trivial, by decide +kernel⟩]
  generalize fob F p w k = FF at *
  have st : ∀ ds : List D, cqsD cs = .tup ds → starC 1 (c_Formula_book_of B F) (.d FF :: leaf ds) = some (R, .d FF :: leaf ds) := fun ds e => by
    have z : ds.length ≤ sizeLine := by
      have : cs.map cqD = ds := by injection e
      rw [← this, List.length_map, sizeLine_eq]; omega
    have lf : O.leafs ((O.d FF :: leaf ds).drop 1) = some ds := leafs_leaf ds
    exact e_star (n := 1) (os := .d FF :: leaf ds) (ds := ds) lf z (by rw [← e]; exact kb)
  unfold c_l_made m_l_made
  match cs, l6 with
  | [], _ =>
    have s := st [] rfl
    have s : starC 1 (c_Formula_book_of B F) [.d FF] = some (R, [.d FF]) := s
    have i0 : decide (((0 : Nat) : Int) = 0) = true := by decide
    simp_arith [List.map_nil, List.map_cons, i0, oh, s]
  | [a0], _ =>
    have s := st [cqD a0] rfl
    have s : starC 1 (c_Formula_book_of B F) [.d FF, .d (cqD a0)] = some (R, [.d FF, .d (cqD a0)]) := s
    have x0 : fIx (.lst [cqD a0]) (.int 0) = some (.d (cqD a0)) := rfl
    have i0 : decide (((1 : Nat) : Int) = 0) = false := by decide
    have i1 : decide (((1 : Nat) : Int) = 1) = true := by decide
    simp only [List.map_cons, List.map_nil]
    generalize cqD a0 = A0 at *
    simp_arith [List.map_nil, List.map_cons, x0, i0, i1, oh, s]
  | [a0, a1], _ =>
    have s := st [cqD a0, cqD a1] rfl
    have s : starC 1 (c_Formula_book_of B F) [.d FF, .d (cqD a0), .d (cqD a1)] = some (R, [.d FF, .d (cqD a0), .d (cqD a1)]) := s
    have x0 : fIx (.lst [cqD a0, cqD a1]) (.int 0) = some (.d (cqD a0)) := rfl
    have x1 : fIx (.lst [cqD a0, cqD a1]) (.int 1) = some (.d (cqD a1)) := rfl
    have i0 : decide (((2 : Nat) : Int) = 0) = false := by decide
    have i1 : decide (((2 : Nat) : Int) = 1) = false := by decide
    have i2 : decide (((2 : Nat) : Int) = 2) = true := by decide
    simp only [List.map_cons, List.map_nil]
    generalize cqD a0 = A0 at *
    generalize cqD a1 = A1 at *
    simp_arith [List.map_nil, List.map_cons, x0, x1, i0, i1, i2, oh, s]
  | [a0, a1, a2], _ =>
    have s := st [cqD a0, cqD a1, cqD a2] rfl
    have s : starC 1 (c_Formula_book_of B F) [.d FF, .d (cqD a0), .d (cqD a1), .d (cqD a2)] = some (R, [.d FF, .d (cqD a0), .d (cqD a1), .d (cqD a2)]) := s
    have x0 : fIx (.lst [cqD a0, cqD a1, cqD a2]) (.int 0) = some (.d (cqD a0)) := rfl
    have x1 : fIx (.lst [cqD a0, cqD a1, cqD a2]) (.int 1) = some (.d (cqD a1)) := rfl
    have x2 : fIx (.lst [cqD a0, cqD a1, cqD a2]) (.int 2) = some (.d (cqD a2)) := rfl
    have i0 : decide (((3 : Nat) : Int) = 0) = false := by decide
    have i1 : decide (((3 : Nat) : Int) = 1) = false := by decide
    have i2 : decide (((3 : Nat) : Int) = 2) = false := by decide
    have i3 : decide (((3 : Nat) : Int) = 3) = true := by decide
    simp only [List.map_cons, List.map_nil]
    generalize cqD a0 = A0 at *
    generalize cqD a1 = A1 at *
    generalize cqD a2 = A2 at *
    simp_arith [List.map_nil, List.map_cons, x0, x1, x2, i0, i1, i2, i3, oh, s]
  | [a0, a1, a2, a3], _ =>
    have s := st [cqD a0, cqD a1, cqD a2, cqD a3] rfl
    have s : starC 1 (c_Formula_book_of B F) [.d FF, .d (cqD a0), .d (cqD a1), .d (cqD a2), .d (cqD a3)] = some (R, [.d FF, .d (cqD a0), .d (cqD a1), .d (cqD a2), .d (cqD a3)]) := s
    have x0 : fIx (.lst [cqD a0, cqD a1, cqD a2, cqD a3]) (.int 0) = some (.d (cqD a0)) := rfl
    have x1 : fIx (.lst [cqD a0, cqD a1, cqD a2, cqD a3]) (.int 1) = some (.d (cqD a1)) := rfl
    have x2 : fIx (.lst [cqD a0, cqD a1, cqD a2, cqD a3]) (.int 2) = some (.d (cqD a2)) := rfl
    have x3 : fIx (.lst [cqD a0, cqD a1, cqD a2, cqD a3]) (.int 3) = some (.d (cqD a3)) := rfl
    have i0 : decide (((4 : Nat) : Int) = 0) = false := by decide
    have i1 : decide (((4 : Nat) : Int) = 1) = false := by decide
    have i2 : decide (((4 : Nat) : Int) = 2) = false := by decide
    have i3 : decide (((4 : Nat) : Int) = 3) = false := by decide
    have i4 : decide (((4 : Nat) : Int) = 4) = true := by decide
    simp only [List.map_cons, List.map_nil]
    generalize cqD a0 = A0 at *
    generalize cqD a1 = A1 at *
    generalize cqD a2 = A2 at *
    generalize cqD a3 = A3 at *
    simp_arith [List.map_nil, List.map_cons, x0, x1, x2, x3, i0, i1, i2, i3, i4, oh, s]
  | [a0, a1, a2, a3, a4], _ =>
    have s := st [cqD a0, cqD a1, cqD a2, cqD a3, cqD a4] rfl
    have s : starC 1 (c_Formula_book_of B F) [.d FF, .d (cqD a0), .d (cqD a1), .d (cqD a2), .d (cqD a3), .d (cqD a4)] = some (R, [.d FF, .d (cqD a0), .d (cqD a1), .d (cqD a2), .d (cqD a3), .d (cqD a4)]) := s
    have x0 : fIx (.lst [cqD a0, cqD a1, cqD a2, cqD a3, cqD a4]) (.int 0) = some (.d (cqD a0)) := rfl
    have x1 : fIx (.lst [cqD a0, cqD a1, cqD a2, cqD a3, cqD a4]) (.int 1) = some (.d (cqD a1)) := rfl
    have x2 : fIx (.lst [cqD a0, cqD a1, cqD a2, cqD a3, cqD a4]) (.int 2) = some (.d (cqD a2)) := rfl
    have x3 : fIx (.lst [cqD a0, cqD a1, cqD a2, cqD a3, cqD a4]) (.int 3) = some (.d (cqD a3)) := rfl
    have x4 : fIx (.lst [cqD a0, cqD a1, cqD a2, cqD a3, cqD a4]) (.int 4) = some (.d (cqD a4)) := rfl
    have i0 : decide (((5 : Nat) : Int) = 0) = false := by decide
    have i1 : decide (((5 : Nat) : Int) = 1) = false := by decide
    have i2 : decide (((5 : Nat) : Int) = 2) = false := by decide
    have i3 : decide (((5 : Nat) : Int) = 3) = false := by decide
    have i4 : decide (((5 : Nat) : Int) = 4) = false := by decide
    have i5 : decide (((5 : Nat) : Int) = 5) = true := by decide
    simp only [List.map_cons, List.map_nil]
    generalize cqD a0 = A0 at *
    generalize cqD a1 = A1 at *
    generalize cqD a2 = A2 at *
    generalize cqD a3 = A3 at *
    generalize cqD a4 = A4 at *
    simp_arith [List.map_nil, List.map_cons, x0, x1, x2, x3, x4, i0, i1, i2, i3, i4, i5, oh, s]
  | _ :: _ :: _ :: _ :: _ :: _ :: _, h => exact absurd h (by simp)
end
end K39
set_option Elab.async false
set_option linter.all false
set_option maxRecDepth 100000
set_option maxHeartbeats 4000000
namespace K39
open PySem PySem.Spec PyProof.Rows L2 BM
local macro_rules
  | `(tactic| simp_arith [$xs,*]) => `(tactic| simp -implicitDefEqProofs only [↓e_gen, ↓ob_some, ↓oo_some, ↓vr_some, ↓sl_some, ↓al_some, ↓fk_nx, ↓fk_bk, ↓fk_ct, ↓fk_rt, ↓lk_nx, ↓lk_bk, ↓lk_ct, ↓lk_rt, ↓rk_nx, ↓rk_rt, ↓ifk_t, ↓ifk_f, ↓rg1_int, ↓e_pure, ↓e_bind, ↓e_var, ↓e_fz, ↓e_mv, ↓e_C, ↓e_val, ↓e_pl, ↓e_mods0, ↓e_mods, ↓e_get0, ↓e_get, ↓e_getV, ↓e_getP, ↓e_flatD, ↓e_flatL, ↓leafs_leaf, ↓e_leafs0, ↓e_leafsD, ↓e_ops, ↓e_op, ↓e_tst, ↓e_bO, ↓e_w1, ↓e_w2, ↓e_w1b, ↓e_w2b, ↓e_truth1, ↓e_truthB, ↓e_truthI, ↓e_truthN, ↓e_truthL, ↓e_truthT, ↓e_args0, ↓e_args, ↓e_tup, ↓e_lst, ↓e_if, ↓e_sif, ↓e_or, ↓e_and, ↓e_not, ↓e_mnot, ↓e_yes, ↓e_mor, ↓e_mand, ↓e_mset, ↓e_set, ↓e_setO, ↓e_expr, ↓e_ret, ↓e_retN, ↓e_pass, ↓e_break, ↓e_cont, ↓e_seq, ↓e_gNm, ↓e_gTs0, ↓e_gTs, ↓e_gTp, ↓e_gTpST, ↓e_gTpSL, ↓e_tgt, ↓e_sfor, ↓e_for0, ↓e_for, ↓e_wipe0, ↓e_wipe, ↓e_iS, ↓e_listT, ↓e_listL, ↓e_iR1, ↓e_rev, ↓e_aval, ↓e_aplc, ↓e_mars0, ↓e_mars, ↓e_take0, ↓e_takeV, ↓e_takeP, ↓e_give0, ↓e_giveV, ↓e_giveP, ↓e_call, ↓e_callM, ↓e_in0, ↓e_inT, ↓e_inF, ↓e_outs0, ↓e_outsT, ↓e_outsF, ↓e_permF, ↓e_permL0, ↓e_permL, ↓pcons_some, ↓e_app, ↓e_msetB0, ↓e_msetB1, ↓e_par, ↓e_par3, ↓e_fld, ↓e_obj, ↓e_make, ↓mkK_ok, ↓e_enA, ↓e_rv, ↓e_dctS, ↓e_lrg, ↓e_isi, ↓e_upper, ↓e_revX, ↓revX_t, ↓e_iSX, ↓e_dct0, ↓e_chn, ↓chK_eq, ↓e_zipS, ↓e_zipL, ↓e_zipV, ↓e_fr, ↓e_zipT, ↓e_lower, ↓e_seqL, ↓e_seqT, ↓e_seqS, ↓e_fListXL, ↓e_fListXT, ↓e_join2, ↓joinK_str, ↓e_join, e_fEqZT, e_fEqZL, e_fNeZT, e_fNeZL, e_toD, e_toL, toDs_leaf, e_toDs0, e_toDs, e_fAddI, e_fSubI,  e_fLtI, e_fLeI, e_fGtI, e_fGeI, e_fEqI, e_fEqS, e_fEqB, ↓e_fNe, ↓e_fNotIn, ↓e_fIsN, e_fLenL, e_fLenT, e_fListL, e_fListT, e_fTupL, e_fTupT, e_fMin, e_fMax, e_fNegI,
      List.getElem?_cons_succ, List.getElem?_cons_zero, List.set_cons_succ, List.set_cons_zero, List.length_cons, List.length_nil, List.replicate_succ, List.replicate_zero, List.cons_append, List.nil_append, Nat.reduceAdd, Nat.reduceLT, Nat.reduceEqDiff, if_true, if_false, and_self, ite_true, ite_false, Bool.false_eq_true, Bool.not_true, Bool.not_false, Bool.or_true, Bool.true_or, decide_true, decide_false, eq_self, $xs,*])
theorem wt_s {x : Str} (h : x.length ≤ 8) : wtN (.str x) ≤ 82 := by unfold wtN; omega
theorem okN_s {x : Str} (h : asc x = true) : okN (.str x) = true := by unfold okN; exact asc_ok h
theorem dp_s (x : Str) : dpN (.str x) ≤ 0 := by unfold dpN; omega
theorem okN_tup {α : Type} {f : α → D} {l : List α} (h : ∀ x ∈ l, okN (f x) = true) : okN (.tup (l.map f)) = true := by
  unfold okN
  refine okNs_all fun d hd => ?_
  obtain ⟨x, hx, rfl⟩ := List.mem_map.mp hd
  exact h x hx
theorem wtN_tup {α : Type} {f : α → D} {l : List α} {B : Nat} (h : ∀ x ∈ l, wtN (f x) ≤ B) : wtN (.tup (l.map f)) ≤ l.length * (B + 2) + 3 := by
  have := wtNs_map h
  unfold wtN
  omega
theorem dpN_tup {α : Type} {f : α → D} {l : List α} {B : Nat} (h : ∀ x ∈ l, dpN (f x) ≤ B) : dpN (.tup (l.map f)) ≤ B + 1 := by
  have := dpNs_map h
  unfold dpN
  omega
/-- data that shows short -/
structure Shw (d : D) (w p : Nat) : Prop where
  ok : okN d = true
  wt : wtN d ≤ w
  dp : dpN d ≤ p
theorem Shw.str {x : Str} (h : asc x = true) (h8 : x.length ≤ 8) : Shw (.str x) 82 0 := ⟨okN_s h, wt_s h8, dp_s x⟩
theorem Shw.tup {α : Type} {f : α → D} {l : List α} {B p W : Nat} (h : ∀ x ∈ l, Shw (f x) B p) (hw : l.length * (B + 2) + 3 ≤ W) : Shw (.tup (l.map f)) W (p + 1) :=
  ⟨okN_tup fun x hx => (h x hx).ok, Nat.le_trans (wtN_tup fun x hx => (h x hx).wt) hw, dpN_tup fun x hx => (h x hx).dp⟩
theorem Shw.pair {a b : D} {wa wb pa pb : Nat} (ha : Shw a wa pa) (hb : Shw b wb pb) : Shw (.tup [a, b]) (wa + wb + 7) (max pa pb + 1) := by
  refine ⟨?_, ?_, ?_⟩
  · unfold okN okNs okNs okNs; rw [ha.ok, hb.ok]; rfl
  · have := ha.wt; have := hb.wt
    unfold wtN wtNs wtNs wtNs; omega
  · have := ha.dp; have := hb.dp
    unfold dpN dpNs dpNs dpNs; omega
theorem Shw.mono {d : D} {w p w' p' : Nat} (h : Shw d w p) (h1 : w ≤ w') (h2 : p ≤ p') : Shw d w' p' := ⟨h.ok, Nat.le_trans h.wt h1, Nat.le_trans h.dp h2⟩
theorem shw_pl {xs : List Str} {m : Nat} (h : ∀ x ∈ xs, asc x = true ∧ x.length ≤ 8) (hm : xs.length ≤ m) : Shw (plD xs) (m * 84 + 3) 1 :=
  Shw.tup (fun x hx => Shw.str (h x hx).1 (h x hx).2) (by have := Nat.mul_le_mul_right 84 hm; omega)
theorem Shw.lst {α : Type} {f : α → D} {l : List α} {B p W : Nat} (h : ∀ x ∈ l, Shw (f x) B p) (hw : l.length * (B + 2) + 3 ≤ W) : Shw (.lst (l.map f)) W (p + 1) := by
  have z := Shw.tup h hw
  refine ⟨?_, ?_, ?_⟩
  · have := z.ok; unfold okN at this ⊢; exact this
  · have := z.wt; unfold wtN at this ⊢; exact this
  · have := z.dp; unfold dpN at this ⊢; exact this
theorem Shw.nat {n : Nat} (h : n < 2 ^ 31) : Shw (dn n) 10 0 := by
  refine ⟨?_, ?_, ?_⟩
  · unfold okN
    refine decide_eq_true ?_
    have : ((n : Nat) : Int).natAbs = n := rfl
    rw [this]
    by_cases e : n = 0
    · subst e; decide
    · have := (Nat.log2_lt e).mpr h
      omega
  · unfold wtN
    rw [if_pos (by omega)]; omega
  · unfold dpN; omega
theorem Shw.rep {d : D} {w p : Nat} (h : Shw d w p) (hw : w ≤ 1000000) (hp : p ≤ 60) : fReprN d = some (.d (.str (rpN d))) :=
  fReprN_ok h.ok (by have := h.wt; rw [sizeLine_eq]; omega) (by have := h.dp; omega)
theorem shw_dns {l : List Nat} (h : ∀ x ∈ l, x < 2 ^ 31) (hl : l.length ≤ 30) : Shw (dns l) 363 1 := Shw.tup (fun x hx => Shw.nat (h x hx)) (by omega)
theorem asc_ltrB : (List.range 26).all (fun v => asc (ltr v)) = true := by decide +kernel
theorem asc_ltr {v : Nat} (h : v < 26) : asc (ltr v) = true := List.all_eq_true.mp asc_ltrB v (List.mem_range.mpr h)
theorem shw_row {p w : Nat} {c : List Nat} (hp : 0 < p) (hp2 : p ≤ 23) (hw : w ≤ 23) : Shw (drow p w c) 1935 1 := by
  have e : drow p w c = .tup ((rowI p w c).map dl) := rfl
  rw [e]
  refine Shw.tup (B := 82) (fun x hx => ?_) ?_
  · unfold rowI at hx
    obtain ⟨y, _, rfl⟩ := List.mem_map.mp hx
    have : rowv p c y < p := Nat.mod_lt _ hp
    exact Shw.str (asc_ltr (by omega)) (show 1 ≤ 8 by omega)
  · unfold rowI; rw [List.length_map, List.length_range]; omega
theorem rowD (p w : Nat) (c : List Nat) : plD (rowF p w c) = drow p w c := by
  show D.tup (((rowI p w c).map ltr).map D.str) = D.tup ((rowI p w c).map dl)
  rw [List.map_map]; rfl
theorem asc_nm {x : Str} (h : NmT x) : asc x = true ∧ x.length ≤ 8 := ⟨h.asc, h.l8⟩
section
variable {p w k : Nat} {cs : List Cq}
theorem shw_named (h : CpT p k cs) (hp : p ≤ 23) (hk : k ≤ 4) : Shw (.lst (cs.map cqD)) 2300 3 := by
  refine Shw.lst (B := 452) (p := 2) (fun c hc => ?_) (by have := h.l5; omega)
  have n := asc_nm (nm5_nm _ (h.nm c hc))
  exact (Shw.pair (Shw.str n.1 n.2) (shw_dns (l := c.2) (fun x hx => by have := h.lt c hc x hx; omega) (by rw [h.len c hc]; omega))).mono (by omega) (by omega)
theorem shw_cs (h : CpT p k cs) (hp1 : 0 < p) (hp : p ≤ 23) (hw : w ≤ 23) : Shw (csD (cpsF p w cs)) 11000 3 := by
  refine Shw.tup (B := 2024) (p := 2) (fun q hq => ?_) (by unfold cpsF; rw [List.length_map]; have := h.l5; omega)
  obtain ⟨c, hc, rfl⟩ := List.mem_map.mp hq
  have n := asc_nm (nm5_nm _ (h.nm c hc))
  have r := shw_row (c := c.2) hp1 hp hw
  rw [← rowD] at r
  exact (Shw.pair (Shw.str n.1 n.2) r).mono (by omega) (by omega)
theorem shw_ps (h1 : 1 ≤ p) (hp : p ≤ 23) (hw : w ≤ 23) : Shw (psD (plcF p w)) 45000 2 := by
  refine Shw.tup (B := 1935) (p := 1) (fun xs hx => ?_) (by unfold plcF; rw [List.length_replicate]; omega)
  rw [(List.mem_replicate.mp hx).2]
  refine (shw_pl (m := 23) (fun x hx => ?_) (by unfold ltrs; rw [List.length_map, List.length_range]; omega)).mono (by omega) (by omega)
  obtain ⟨many, _, _, hm⟩ := ltrs_pl h1 hp
  exact ⟨(hm.mks x hx).asc, (hm.mks x hx).l8⟩
end
theorem eqv_ok {d : D} {w p : Nat} (h : okD d = true) (hd : dpD d ≤ 60) : fEq d d = some true := by
  rw [fEq_ok h h hd hd, PySem.SeqAt.eqv_refl _ (okD_py h).2.1]
section
variable {C : Addr} {p w k : Nat} {cs : List Cq}
theorem okD_pl {xs : List Str} (h : ∀ x ∈ xs, asc x = true) : okD (plD xs) = true := by rw [okD]; exact okDs_str h
theorem dpD_pl (xs : List Str) : dpD (plD xs) ≤ 1 := by rw [dpD]; have := dpDs_str xs; omega
theorem fEq_ps (h1 : 1 ≤ p) (hp : p ≤ 23) : fEq (psD (plcF p w)) (psD (plcF p w)) = some true := by
  refine eqv_ok (w := 0) (p := 0) ?_ ?_
  · rw [psD, okD]
    refine okDs_map fun xs hx => ?_
    rw [(List.mem_replicate.mp hx).2]
    refine okD_pl fun x hx => ?_
    obtain ⟨many, _, _, hm⟩ := ltrs_pl h1 hp
    exact (hm.mks x hx).asc
  · rw [psD, dpD]
    have := dpDs_map (f := plD) (B := 1) (l := plcF p w) fun x _ => dpD_pl x
    omega
theorem fEq_cs (h : CpT p k cs) (h1 : 1 ≤ p) (hp : p ≤ 23) : fEq (csD (cpsF p w cs)) (csD (cpsF p w cs)) = some true := by
  refine eqv_ok (w := 0) (p := 0) ?_ ?_
  · rw [csD, okD]
    refine okDs_map fun q hq => ?_
    obtain ⟨c, hc, rfl⟩ := List.mem_map.mp hq
    have n := asc_nm (nm5_nm _ (h.nm c hc))
    have r : okD (plD (rowF p w c.2)) = true := okD_pl fun x hx => by
      unfold rowF rowI at hx
      rw [List.map_map] at hx
      obtain ⟨y, _, rfl⟩ := List.mem_map.mp hx
      have : rowv p c.2 y < p := Nat.mod_lt _ h1
      exact asc_ltr (by omega)
    rw [okD, okDs, okDs, okDs, okD, asc_ok n.1, r]; rfl
  · rw [csD, dpD]
    have := dpDs_map (f := cpD) (B := 2) (l := cpsF p w cs) fun q _ => by
      rw [cpD, dpD, dpDs, dpDs, dpDs]
      have := dpD_pl q.2
      have : dpD (D.str q.1) = 0 := by simp [dpD]
      omega
    omega
theorem r_eq (h : CpT p k cs) (h1 : 1 ≤ p) (hp : p ≤ 23) : c_Book___eq__ C [.d (bk C (plcF p w) (cpsF p w cs)), .d (bk C (plcF p w) (cpsF p w cs))] = some (.d (.bl true), [.d (bk C (plcF p w) (cpsF p w cs)), .d (bk C (plcF p w) (cpsF p w cs))]) := by
  have e1 := fEq_ps (w := w) h1 hp
  have e2 := fEq_cs (w := w) h h1 hp
  have io : ∀ s : BM.Env, s[1]? = some (some (.d (bk C (plcF p w) (cpsF p w cs)))) → mIsO C (mVar 1) s = some (.d (.bl true), s) := fun s hs => e_isO (o := .d (bk C (plcF p w) (cpsF p w cs))) (by unfold mVar; rw [hs]) rfl
  have fp : ∀ s : BM.Env, fldK C ("places" : Str) (.d (bk C (plcF p w) (cpsF p w cs))) s = some (.d (psD (plcF p w)), s) := fun s => f_places
  have fc : ∀ s : BM.Env, fldK C ("copies" : Str) (.d (bk C (plcF p w) (cpsF p w cs))) s = some (.d (csD (cpsF p w cs)), s) := fun s => f_copies
  have i2 := io [some (.d (bk C (plcF p w) (cpsF p w cs))), some (.d (bk C (plcF p w) (cpsF p w cs)))] rfl
  generalize bk C (plcF p w) (cpsF p w cs) = BB at *
  generalize psD (plcF p w) = PP at *
  generalize csD (cpsF p w cs) = KK at *
  simp_arith [c_Book___eq__, m_Book___eq__, i2, fp, fc, e1, e2]
end
end K39
set_option Elab.async false
set_option linter.all false
set_option maxRecDepth 100000
set_option maxHeartbeats 4000000
namespace K39
open PySem PySem.Spec PyProof.Rows L2 BM
local macro_rules
  | `(tactic| simp_arith [$xs,*]) => `(tactic| simp -implicitDefEqProofs only [↓e_gen, ↓ob_some, ↓oo_some, ↓vr_some, ↓sl_some, ↓al_some, ↓fk_nx, ↓fk_bk, ↓fk_ct, ↓fk_rt, ↓lk_nx, ↓lk_bk, ↓lk_ct, ↓lk_rt, ↓rk_nx, ↓rk_rt, ↓ifk_t, ↓ifk_f, ↓rg1_int, ↓e_pure, ↓e_bind, ↓e_var, ↓e_fz, ↓e_mv, ↓e_C, ↓e_val, ↓e_pl, ↓e_mods0, ↓e_mods, ↓e_get0, ↓e_get, ↓e_getV, ↓e_getP, ↓e_flatD, ↓e_flatL, ↓leafs_leaf, ↓e_leafs0, ↓e_leafsD, ↓e_ops, ↓e_op, ↓e_tst, ↓e_bO, ↓e_w1, ↓e_w2, ↓e_w1b, ↓e_w2b, ↓e_truth1, ↓e_truthB, ↓e_truthI, ↓e_truthN, ↓e_truthL, ↓e_truthT, ↓e_args0, ↓e_args, ↓e_tup, ↓e_lst, ↓e_if, ↓e_sif, ↓e_or, ↓e_and, ↓e_not, ↓e_mnot, ↓e_yes, ↓e_mor, ↓e_mand, ↓e_mset, ↓e_set, ↓e_setO, ↓e_expr, ↓e_ret, ↓e_retN, ↓e_pass, ↓e_break, ↓e_cont, ↓e_seq, ↓e_gNm, ↓e_gTs0, ↓e_gTs, ↓e_gTp, ↓e_gTpST, ↓e_gTpSL, ↓e_tgt, ↓e_sfor, ↓e_for0, ↓e_for, ↓e_wipe0, ↓e_wipe, ↓e_iS, ↓e_listT, ↓e_listL, ↓e_iR1, ↓e_rev, ↓e_aval, ↓e_aplc, ↓e_mars0, ↓e_mars, ↓e_take0, ↓e_takeV, ↓e_takeP, ↓e_give0, ↓e_giveV, ↓e_giveP, ↓e_call, ↓e_callM, ↓e_in0, ↓e_inT, ↓e_inF, ↓e_outs0, ↓e_outsT, ↓e_outsF, ↓e_permF, ↓e_permL0, ↓e_permL, ↓pcons_some, ↓e_app, ↓e_msetB0, ↓e_msetB1, ↓e_par, ↓e_par3, ↓e_fld, ↓e_obj, ↓e_make, ↓mkK_ok, ↓e_enA, ↓e_rv, ↓e_dctS, ↓e_lrg, ↓e_isi, ↓e_upper, ↓e_revX, ↓revX_t, ↓e_iSX, ↓e_dct0, ↓e_chn, ↓chK_eq, ↓e_zipS, ↓e_zipL, ↓e_zipV, ↓e_fr, ↓e_zipT, ↓e_lower, ↓e_seqL, ↓e_seqT, ↓e_seqS, ↓e_fListXL, ↓e_fListXT, ↓e_join2, ↓joinK_str, ↓e_join, e_fEqZT, e_fEqZL, e_fNeZT, e_fNeZL, e_toD, e_toL, toDs_leaf, e_toDs0, e_toDs, e_fAddI, e_fSubI,  e_fLtI, e_fLeI, e_fGtI, e_fGeI, e_fEqI, e_fEqS, e_fEqB, ↓e_fNe, ↓e_fNotIn, ↓e_fIsN, e_fLenL, e_fLenT, e_fListL, e_fListT, e_fTupL, e_fTupT, e_fMin, e_fMax, e_fNegI,
      List.getElem?_cons_succ, List.getElem?_cons_zero, List.set_cons_succ, List.set_cons_zero, List.length_cons, List.length_nil, List.replicate_succ, List.replicate_zero, List.cons_append, List.nil_append, Nat.reduceAdd, Nat.reduceLT, Nat.reduceEqDiff, if_true, if_false, and_self, ite_true, ite_false, Bool.false_eq_true, Bool.not_true, Bool.not_false, Bool.or_true, Bool.true_or, decide_true, decide_false, eq_self, $xs,*])
abbrev prms : List Nat := [2, 3, 5, 7, 11, 13, 17, 19, 23]
theorem prm_le : ∀ p ∈ prms, 2 ≤ p ∧ p ≤ 23 := by decide
theorem r_shape {n : Nat} {deck : O} (h : Deck n deck) (hn : n + 10 < 2 ^ 39) {j : Nat} (hj : j < 6) : ∃ (p w k : Nat) (deck' : O), c_l_shape [deck, .d (dn j)] = some (.d (.tup [dn p, dn w, dn k]), [deck', .d (dn j)]) ∧ Deck (n + 5) deck' ∧ p ∈ prms ∧ 1 ≤ w ∧ w ≤ p ∧ 1 ≤ k ∧ k ≤ 4 ∧ k ≤ w := by
  obtain ⟨da, ka, a1, a2, a3⟩ := r_pickL h (by omega) (l := [dn 7, dn 11, dn 13]) (by simp) (by simp)
  have a1 : c_l_pick [deck, .lst [.d (.int 7), .d (.int 11), .d (.int 13)]] = some (.d da, [ka, .lst [.d (.int 7), .d (.int 11), .d (.int 13)]]) := a1
  obtain ⟨db, kb, b1, b2, b3⟩ := r_pickL a2 (by omega) (l := [dn 17, dn 19, dn 23]) (by simp) (by simp)
  have b1 : c_l_pick [ka, .lst [.d (.int 17), .d (.int 19), .d (.int 23)]] = some (.d db, [kb, .lst [.d (.int 17), .d (.int 19), .d (.int 23)]]) := b1
  obtain ⟨pa, rfl, hpa⟩ : ∃ p, da = dn p ∧ p ∈ prms := by
    simp only [List.mem_cons, List.not_mem_nil, or_false] at a3
    rcases a3 with e | e | e
    · exact ⟨7, e, by decide⟩
    · exact ⟨11, e, by decide⟩
    · exact ⟨13, e, by decide⟩
  obtain ⟨pb, rfl, hpb⟩ : ∃ p, db = dn p ∧ p ∈ prms := by
    simp only [List.mem_cons, List.not_mem_nil, or_false] at b3
    rcases b3 with e | e | e
    · exact ⟨17, e, by decide⟩
    · exact ⟨19, e, by decide⟩
    · exact ⟨23, e, by decide⟩
  obtain ⟨p, hp, ix⟩ : ∃ p, p ∈ prms ∧ fIx (.lst [.int 2, .int 3, .int 5, .int 23, dn pa, dn pb]) (.int ((j : Nat) : Int)) = some (.d (dn p)) := by
    match j, hj with
    | 0, _ => exact ⟨2, by decide, fIx_l rfl⟩
    | 1, _ => exact ⟨3, by decide, fIx_l rfl⟩
    | 2, _ => exact ⟨5, by decide, fIx_l rfl⟩
    | 3, _ => exact ⟨23, by decide, fIx_l rfl⟩
    | 4, _ => exact ⟨pa, hpa, fIx_l rfl⟩
    | 5, _ => exact ⟨pb, hpb, fIx_l rfl⟩
    | j + 6, hj => exact absurd hj (by omega)
  have hp2 := prm_le p hp
  obtain ⟨v, k2, c1, c2, c3⟩ := r_draw b2 (many := p) (by omega) (by omega)
  have s1 : (1 : Int) + (v : Int) = ((1 + v : Nat) : Int) := by omega
  obtain ⟨d2, k3, d1, d2', d3⟩ := r_pickL c2 (by omega) (l := [dn p, dn p, dn (1 + v)]) (by simp) (by simp)
  have d1 : c_l_pick [k2, .lst [.d (dn p), .d (dn p), .d (dn (1 + v))]] = some (.d d2, [k3, .lst [.d (dn p), .d (dn p), .d (dn (1 + v))]]) := d1
  obtain ⟨w, rfl, hw⟩ : ∃ w, d2 = dn w ∧ 1 ≤ w ∧ w ≤ p := by
    simp only [List.mem_cons, List.not_mem_nil, or_false] at d3
    rcases d3 with e | e | e
    · exact ⟨p, e, by omega, by omega⟩
    · exact ⟨p, e, by omega, by omega⟩
    · exact ⟨1 + v, e, by omega, by omega⟩
  have mn : (if (w : Int) < 4 then (w : Int) else 4) = ((min 4 w : Nat) : Int) := by split <;> omega
  obtain ⟨u, k4, g1, g2, g3⟩ := r_draw d2' (many := min 4 w) (by omega) (by omega)
  have s2 : (1 : Int) + (u : Int) = ((1 + u : Nat) : Int) := by omega
  refine ⟨p, w, 1 + u, k4, ?_, g2, hp, hw.1, hw.2, by omega, by omega, by omega⟩
  simp_arith [c_l_shape, m_l_shape, a1, b1, ix, c1, s1, d1, mn, g1, s2]
structure Lst (p k : Nat) (l : List (List Nat)) : Prop where
  len : ∀ c ∈ l, c.length = k
  lt : ∀ c ∈ l, ∀ x ∈ c, x < p
theorem Lst.add {p k : Nat} {l : List (List Nat)} (h : Lst p k l) {c : List Nat} (h1 : c.length = k) (h2 : ∀ x ∈ c, x < p) : Lst p k (l ++ [c]) := by
  refine ⟨fun d hd => ?_, fun d hd => ?_⟩
  · rcases List.mem_append.mp hd with hd | hd
    · exact h.len d hd
    · rw [List.mem_singleton.mp hd]; exact h1
  · rcases List.mem_append.mp hd with hd | hd
    · exact h.lt d hd
    · rw [List.mem_singleton.mp hd]; exact h2
theorem flat_rep1 (d : D) : ∀ k, (List.replicate k [d]).flatten = List.replicate k d
  | 0 => rfl
  | k + 1 => by rw [List.replicate_succ, List.flatten_cons, flat_rep1 d k, List.replicate_succ]; rfl
theorem mulT {x k : Nat} (hk : k ≤ 4) : fMulY (.tup [dn x]) (.int ((k : Nat) : Int)) = some (.d (dns (List.replicate k x))) := by
  have mu := fMulY_ok (a := [dn x]) (by simp) (by simp) (k := k) (by omega)
  rw [flat_rep1] at mu
  rw [mu, dns, List.map_replicate]
theorem ix_lastN {l : List (List Nat)} {c : List Nat} : fIx (.lst ((l ++ [c]).map dns)) (.int (-1)) = some (.d (dns c)) := by
  have hl : ((l ++ [c]).map dns).length = l.length + 1 := by rw [List.length_map, List.length_append]; rfl
  have hj : ixN ((l ++ [c]).map dns).length (-1) = some l.length := by
    rw [hl]
    unfold ixN
    rw [if_neg (by omega), if_pos (by omega)]
    congr 1
    omega
  have hg : ((l ++ [c]).map dns)[l.length]? = some (dns c) := by
    rw [List.getElem?_map, List.getElem?_append_right (Nat.le_refl _), Nat.sub_self]; rfl
  show (match ixN ((l ++ [c]).map dns).length (-1) with
    | some j => (match ((l ++ [c]).map dns)[j]? with
      | some d => some (O.d d)
      | none => none)
    | none => none) = _
  rw [hj]
  show (match ((l ++ [c]).map dns)[l.length]? with
      | some d => some (O.d d)
      | none => none) = _
  rw [hg]
end K39
set_option Elab.async false
set_option linter.all false
set_option maxRecDepth 100000
set_option maxHeartbeats 4000000
namespace K39
open PySem PySem.Spec PyProof.Rows L2 BM
local macro_rules
  | `(tactic| simp_arith [$xs,*]) => `(tactic| simp -implicitDefEqProofs only [↓e_gen, ↓ob_some, ↓oo_some, ↓vr_some, ↓sl_some, ↓al_some, ↓fk_nx, ↓fk_bk, ↓fk_ct, ↓fk_rt, ↓lk_nx, ↓lk_bk, ↓lk_ct, ↓lk_rt, ↓rk_nx, ↓rk_rt, ↓ifk_t, ↓ifk_f, ↓rg1_int, ↓e_pure, ↓e_bind, ↓e_var, ↓e_fz, ↓e_mv, ↓e_C, ↓e_val, ↓e_pl, ↓e_mods0, ↓e_mods, ↓e_get0, ↓e_get, ↓e_getV, ↓e_getP, ↓e_flatD, ↓e_flatL, ↓leafs_leaf, ↓e_leafs0, ↓e_leafsD, ↓e_ops, ↓e_op, ↓e_tst, ↓e_bO, ↓e_w1, ↓e_w2, ↓e_w1b, ↓e_w2b, ↓e_truth1, ↓e_truthB, ↓e_truthI, ↓e_truthN, ↓e_truthL, ↓e_truthT, ↓e_args0, ↓e_args, ↓e_tup, ↓e_lst, ↓e_if, ↓e_sif, ↓e_or, ↓e_and, ↓e_not, ↓e_mnot, ↓e_yes, ↓e_mor, ↓e_mand, ↓e_mset, ↓e_set, ↓e_setO, ↓e_expr, ↓e_ret, ↓e_retN, ↓e_pass, ↓e_break, ↓e_cont, ↓e_seq, ↓e_gNm, ↓e_gTs0, ↓e_gTs, ↓e_gTp, ↓e_gTpST, ↓e_gTpSL, ↓e_tgt, ↓e_sfor, ↓e_for0, ↓e_for, ↓e_wipe0, ↓e_wipe, ↓e_iS, ↓e_listT, ↓e_listL, ↓e_iR1, ↓e_rev, ↓e_aval, ↓e_aplc, ↓e_mars0, ↓e_mars, ↓e_take0, ↓e_takeV, ↓e_takeP, ↓e_give0, ↓e_giveV, ↓e_giveP, ↓e_call, ↓e_callM, ↓e_in0, ↓e_inT, ↓e_inF, ↓e_outs0, ↓e_outsT, ↓e_outsF, ↓e_permF, ↓e_permL0, ↓e_permL, ↓pcons_some, ↓e_app, ↓e_msetB0, ↓e_msetB1, ↓e_par, ↓e_par3, ↓e_fld, ↓e_obj, ↓e_make, ↓mkK_ok, ↓e_enA, ↓e_rv, ↓e_dctS, ↓e_lrg, ↓e_isi, ↓e_upper, ↓e_revX, ↓revX_t, ↓e_iSX, ↓e_dct0, ↓e_chn, ↓chK_eq, ↓e_zipS, ↓e_zipL, ↓e_zipV, ↓e_fr, ↓e_zipT, ↓e_lower, ↓e_seqL, ↓e_seqT, ↓e_seqS, ↓e_fListXL, ↓e_fListXT, ↓e_join2, ↓joinK_str, ↓e_join, e_fEqZT, e_fEqZL, e_fNeZT, e_fNeZL, e_toD, e_toL, toDs_leaf, e_toDs0, e_toDs, e_fAddI, e_fSubI,  e_fLtI, e_fLeI, e_fGtI, e_fGeI, e_fEqI, e_fEqS, e_fEqB, ↓e_fNe, ↓e_fNotIn, ↓e_fIsN, e_fLenL, e_fLenT, e_fListL, e_fListT, e_fTupL, e_fTupT, e_fMin, e_fMax, e_fNegI,
      List.getElem?_cons_succ, List.getElem?_cons_zero, List.set_cons_succ, List.set_cons_zero, List.length_cons, List.length_nil, List.replicate_succ, List.replicate_zero, List.cons_append, List.nil_append, Nat.reduceAdd, Nat.reduceLT, Nat.reduceEqDiff, if_true, if_false, and_self, ite_true, ite_false, Bool.false_eq_true, Bool.not_true, Bool.not_false, Bool.or_true, Bool.true_or, decide_true, decide_false, eq_self, $xs,*])
theorem fAdd_tt {a b : List D} (h : a.length + b.length ≤ sizeLine) : fAdd (.tup a) (.tup b) = some (.d (.tup (a ++ b))) := if_pos h
theorem slH_n {c : List Nat} {u : Nat} : fSlH [dns c, .int ((u : Nat) : Int)] = some (.d (dns (c.take u))) := by
  show some (O.d (.tup (BM.cutD (c.map dn) none (some ((u : Nat) : Int))))) = _
  rw [cut_to, dns, List.map_take]
theorem slL_n {c : List Nat} {u : Nat} : fSlL [dns c, .int ((u : Nat) : Int)] = some (.d (dns (c.drop u))) := by
  show some (O.d (.tup (BM.cutD (c.map dn) (some ((u : Nat) : Int)) none))) = _
  rw [cut_from, dns, List.map_drop]
theorem add_n {a b : List Nat} (h : a.length + b.length ≤ 1000) : fAdd (dns a) (dns b) = some (.d (dns (a ++ b))) := by
  rw [dns, fAdd_tt (by rw [List.length_map, List.length_map, sizeLine_eq]; omega), dns, List.map_append]
theorem ix_n {c : List Nat} {u : Nat} (h : u < c.length) : fIx (dns c) (.int ((u : Nat) : Int)) = some (.d (dn c[u])) := fIx_t (by rw [List.getElem?_map, List.getElem?_eq_getElem h]; rfl)
abbrev bodyL : M Fl := (sSeq (sSet 5 (mCall c_l_numbers [aplc' 0, aval (mVar 1), aval (mVar 2)]))
  (sSeq (sIf (mTst (w2b fEq) [mval (mCall c_l_draw [aplc' 0, aval (mC (.int 2))]), mval (mC (.int 0))]) (sSeq (sSet 6 (mCall c_l_draw [aplc' 0, aval (mVar 2)]))
  (sSet 5 (mOp (w2 fAdd) [mval (mOp (w2 fAdd) [mval (mOp fSlH [mval (mOp (w2 fIx) [mPl 3, mval (mOp (w1 fNeg) [mval (mC (.int 1))])]), mval (mVar 6)]), mval (mTup [mOp (w2 fIx) [mval (mVar 5), mval (mVar 6)]])]), mval (mOp fSlL [mval (mOp (w2 fIx) [mPl 3, mval (mOp (w1 fNeg) [mval (mC (.int 1))])]), mval (mOp (w2 fAdd) [mval (mVar 6), mval (mC (.int 1))])])]))) (sPass))
  (sExpr (mApp 3 (mVar 5)))))
theorem m_l_lists_eq : m_l_lists = sSeq (sSetO 3 (mLst [mOp (w2 fMulY) [mval (mTup [mC (.int 0)]), mval (mVar 2)], mOp (w2 fMulY) [mval (mTup [mOp (w2 fSub) [mval (mVar 1), mval (mC (.int 1))]]), mval (mVar 2)]]))
  (sSeq (sFor (iR1 (mC (.int 8))) (gNm 4) bodyL) (sRet (mMv 3))) := rfl
theorem l_turn {n p k : Nat} {dk : O} (hD : Deck n dk) (hn : n + 300 < 2 ^ 39) (hp : 2 ≤ p) (hp2 : p ≤ 23) (hk : 1 ≤ k) (hk2 : k ≤ 4) {init : List (List Nat)} {last : List Nat} (hL : Lst p k (init ++ [last])) (hl : init.length ≤ 100) (x4 x5 x6 : Option O) :
    ∃ (dk' : O) (c : List Nat) (n' : Nat) (y5 y6 : Option O), bodyL [some dk, some (.d (dn p)), some (.d (dn k)), some (.lst (leaf ((init ++ [last]).map dns))), x4, x5, x6]
      = some (.nx, [some dk', some (.d (dn p)), some (.d (dn k)), some (.lst (leaf ((init ++ [last] ++ [c]).map dns))), x4, y5, y6]) ∧ Deck n' dk' ∧ n' ≤ n + 10 ∧ c.length = k ∧ ∀ x ∈ c, x < p := by
  obtain ⟨nb, k1, a1, a2, a3, a4⟩ := r_numbers hD (p := p) (k := k) (by omega) (by omega) (by omega) (by omega)
  obtain ⟨v, k2, b1, b2, b3⟩ := r_draw a2 (many := 2) (by omega) (by omega)
  have b1 : c_l_draw [k1, .d (.int 2)] = some (.d (.int v), [k2, .d (.int 2)]) := b1
  have ll : (leaf ((init ++ [last]).map dns)).length < sizeLine := by
    rw [leaf_len, List.length_map, List.length_append, sizeLine_eq]; simp; omega
  have ea : ∀ c : List Nat, leaf ((init ++ [last]).map dns) ++ [.d (dns c)] = leaf ((init ++ [last] ++ [c]).map dns) := fun c => by
    rw [leaf, leaf, List.map_append (l₁ := init ++ [last]), List.map_append (f := O.d)]; rfl
  have fl : leaf ((init ++ [last]).map dns) = leaf ((init ++ [last]).map dns) := rfl
  by_cases h0 : v = 0
  · subst h0
    obtain ⟨u, k3, c1, c2, c3⟩ := r_draw b2 (many := k) (by omega) (by omega)
    have hll : last.length = k := hL.len last (List.mem_append_right _ (List.mem_singleton.mpr rfl))
    have hlt := hL.lt last (List.mem_append_right _ (List.mem_singleton.mpr rfl))
    have i1 : fIx (.lst ((init ++ [last]).map dns)) (.int (-1)) = some (.d (dns last)) := ix_lastN
    have i2 := ix_n (c := nb) (u := u) (by omega)
    have s1 : (u : Int) + 1 = ((u + 1 : Nat) : Int) := by omega
    have l1 := slH_n (c := last) (u := u)
    have l2 := slL_n (c := last) (u := u + 1)
    have ad1 : fAdd (dns (last.take u)) (.tup [dn nb[u]]) = some (.d (dns (last.take u ++ [nb[u]]))) := add_n (b := [nb[u]]) (by rw [List.length_take]; simp; omega)
    have ad2 := add_n (a := last.take u ++ [nb[u]]) (b := last.drop (u + 1)) (by rw [List.length_append, List.length_take, List.length_drop]; simp; omega)
    have ap := ea (last.take u ++ [nb[u]] ++ last.drop (u + 1))
    have d0 : decide ((((0 : Nat) : Nat) : Int) = 0) = true := by decide
    have ng : (-(1 : Int)) = -1 := rfl
    refine ⟨k3, last.take u ++ [nb[u]] ++ last.drop (u + 1), _, some (.d (dns (last.take u ++ [nb[u]] ++ last.drop (u + 1)))), some (.d (dn u)), ?_, c2, by omega, by rw [List.length_append, List.length_append, List.length_take, List.length_drop]; simp; omega, fun x hx => ?_⟩
    · generalize (init ++ [last] ++ [last.take u ++ [nb[u]] ++ last.drop (u + 1)]).map dns = ZZ at *
      generalize (init ++ [last]).map dns = FF at *
      generalize dns (last.take u ++ [nb[u]] ++ last.drop (u + 1)) = CC at *
      generalize dns (last.take u ++ [nb[u]]) = C1 at *
      generalize dns (last.take u) = C2 at *
      generalize dns (last.drop (u + 1)) = C3 at *
      generalize dns last = C4 at *
      generalize dns nb = C5 at *
      simp_arith [a1, b1, d0, c1, i1, ng, l1, i2, ad1, s1, l2, ad2, e_ifp ll, ap]
    · rcases List.mem_append.mp hx with hx | hx
      · rcases List.mem_append.mp hx with hx | hx
        · exact hlt x (List.mem_of_mem_take hx)
        · rw [List.mem_singleton.mp hx]; exact a4 _ (List.getElem_mem _)
      · exact hlt x (List.mem_of_mem_drop hx)
  · have d0 : decide ((v : Int) = 0) = false := decide_eq_false (by omega)
    have ap := ea nb
    refine ⟨k2, nb, _, some (.d (dns nb)), x6, ?_, b2, by omega, a3, a4⟩
    generalize (init ++ [last] ++ [nb]).map dns = ZZ at *
    generalize (init ++ [last]).map dns = FF at *
    generalize dns nb = C5 at *
    simp_arith [a1, b1, d0, e_ifp ll, ap]
theorem r_lists {n p k : Nat} {dk : O} (hD : Deck n dk) (hn : n + 1000 < 2 ^ 39) (hp : 2 ≤ p) (hp2 : p ≤ 23) (hk : 1 ≤ k) (hk2 : k ≤ 4) : ∃ (l : List (List Nat)) (dk' : O) (n' : Nat), c_l_lists [dk, .d (dn p), .d (dn k)] = some (.lst (leaf (l.map dns)), [dk', .d (dn p), .d (dn k)]) ∧ Deck n' dk' ∧ n' ≤ n + 100 ∧ Lst p k l ∧ l.length = 10 := by
  have L0 : Lst p k [List.replicate k 0, List.replicate k (p - 1)] := by
    refine ⟨fun c hc => ?_, fun c hc x hx => ?_⟩
    · rcases List.mem_cons.mp hc with rfl | hc
      · exact List.length_replicate ..
      · rw [List.mem_singleton.mp hc]; exact List.length_replicate ..
    · rcases List.mem_cons.mp hc with rfl | hc
      · rw [(List.mem_replicate.mp hx).2]; omega
      · rw [List.mem_singleton.mp hc] at hx
        rw [(List.mem_replicate.mp hx).2]; omega
  obtain ⟨s', l1, dk', init, last, n', x4, x5, x6, rfl, q1, q2, q3, q4⟩ := x_forS (emb := dn) (g := gNm 4) (body := bodyL) (P := fun j s => ∃ (dk' : O) (init : List (List Nat)) (last : List Nat) (n' : Nat) (x4 x5 x6 : Option O), s = [some dk', some (.d (dn p)), some (.d (dn k)), some (.lst (leaf ((init ++ [last]).map dns))), x4, x5, x6] ∧ Deck n' dk' ∧ n' ≤ n + 10 * j ∧ Lst p k (init ++ [last]) ∧ init.length = j + 1)
    (s0 := [some dk, some (.d (dn p)), some (.d (dn k)), some (.lst (leaf (([List.replicate k 0] ++ [List.replicate k (p - 1)]).map dns))), none, none, none]) (List.range 8) ⟨dk, [List.replicate k 0], List.replicate k (p - 1), n, none, none, none, rfl, hD, by omega, L0, rfl⟩ fun j x s hx ⟨dk', init, last, n', x4, x5, x6, es, q1, q2, q3, q4⟩ => by
      subst es
      have hj : j < 8 := by have := (List.getElem?_eq_some_iff.mp hx).1; rw [List.length_range] at this; exact this
      obtain ⟨dk2, c, n2, y5, y6, e1, e2, e3, e4, e5⟩ := l_turn (k := k) q1 (by omega) hp hp2 hk hk2 q3 (by omega) (some (.d (dn x))) x5 x6
      exact ⟨_, _, rfl, e1, dk2, init ++ [last], c, n2, _, y5, y6, rfl, e2, by omega, q3.add e4 e5, by rw [List.length_append]; simp; omega⟩
  have r8 : upto 0 (Int.toNat 8) = (List.range 8).map dn := upto_nat 8
  have g8 : -(2 : Int) ^ 62 ≤ 8 ∧ (8 : Int) < 2 ^ 62 := by omega
  have m1 : fMulY (.tup [.int 0]) (.int ((k : Nat) : Int)) = some (.d (dns (List.replicate k 0))) := mulT (x := 0) hk2
  have m2 := mulT (x := p - 1) hk2
  have s1 : (p : Int) - 1 = ((p - 1 : Nat) : Int) := by omega
  refine ⟨init ++ [last], dk', n', ?_, q1, by rw [List.length_range] at q2; omega, q3, by rw [List.length_append, q4]; simp⟩
  have e0 : leaf (([List.replicate k 0] ++ [List.replicate k (p - 1)]).map dns) = [.d (dns (List.replicate k 0)), .d (dns (List.replicate k (p - 1)))] := rfl
  rw [e0] at l1
  rw [c_l_lists, m_l_lists_eq]
  generalize bodyL = bL at l1 ⊢
  generalize dns (List.replicate k 0) = Z1 at *
  generalize dns (List.replicate k (p - 1)) = Z2 at *
  generalize leaf ((init ++ [last]).map dns) = Z3 at *
  simp_arith [m1, m2, s1, e_ifp g8, r8, l1]
end K39
set_option Elab.async false
set_option linter.all false
set_option maxRecDepth 100000
set_option maxHeartbeats 4000000
namespace BMP
/-- the value, lowest coefficient first -/
def ev (x : Int) : List Int → Int
  | [] => 0
  | c :: r => c + x * ev x r
/-- the quotient by (x - r) -/
def quo (r : Int) : List Int → List Int
  | [] => []
  | e :: t => ev r (e :: t) :: quo r t
theorem quo_len (r : Int) : ∀ t, (quo r t).length = t.length
  | [] => rfl
  | e :: t => by rw [quo, List.length_cons, List.length_cons, quo_len r t]
theorem ev_quo (x r : Int) : ∀ (t : List Int) (e : Int), ev x (e :: t) - ev r (e :: t) = (x - r) * ev x (quo r t)
  | [], e => by simp [ev, quo]
  | f :: t, e => by
    have ih := ev_quo x r t f
    have h1 : ev x (e :: f :: t) = e + x * ev x (f :: t) := rfl
    have h2 : ev r (e :: f :: t) = e + r * ev r (f :: t) := rfl
    have h3 : ev x (quo r (f :: t)) = ev r (f :: t) + x * ev x (quo r t) := rfl
    rw [h1, h2, h3]
    generalize ev x (f :: t) = A at *
    generalize ev r (f :: t) = B at *
    generalize ev x (quo r t) = C at *
    have hA : A = B + (x - r) * C := by omega
    subst hA
    simp only [Int.mul_add, Int.sub_mul, Int.mul_sub, Int.mul_assoc]
    have e1 : x * (r * C) = r * (x * C) := by rw [← Int.mul_assoc, Int.mul_comm x r, Int.mul_assoc]
    omega
/-- all are divisible -/
def AllD (p : Int) (l : List Int) : Prop := ∀ e ∈ l, p ∣ e
theorem quo_all {p r : Int} : ∀ {t : List Int}, AllD p (quo r t) → AllD p t ∧ p ∣ ev r t
  | [], _ => ⟨fun e h => (nomatch h), Int.dvd_zero p⟩
  | e :: t, h => by
    have h0 : p ∣ ev r (e :: t) := h _ List.mem_cons_self
    obtain ⟨h1, h2⟩ := quo_all (t := t) fun x hx => h x (List.mem_cons_of_mem _ hx)
    have e1 : ev r (e :: t) = e + r * ev r t := rfl
    have h3 : p ∣ e := by
      rw [e1] at h0
      have h4 : p ∣ r * ev r t := Int.dvd_trans h2 (Int.dvd_mul_left r _)
      exact (Int.dvd_add_left h4).mp h0
    exact ⟨fun x hx => by
      rcases List.mem_cons.mp hx with rfl | hx
      · exact h3
      · exact h1 x hx, h0⟩
def Pr (p : Int) : Prop := 0 < p ∧ ∀ a b : Int, p ∣ a * b → p ∣ a ∨ p ∣ b
theorem roots_lt {p : Int} (hp : Pr p) : ∀ (E : List Int), ¬ AllD p E → ∀ L : List Int, L.Nodup → (∀ x ∈ L, 0 ≤ x ∧ x < p ∧ p ∣ ev x E) → L.length < E.length
  | [], h, _, _, _ => absurd (fun e h => nomatch h) h
  | e :: t, h, [], _, _ => by simp
  | e :: t, h, r :: L, nd, hL => by
    obtain ⟨n1, n2⟩ := List.nodup_cons.mp nd
    obtain ⟨r0, rp, hr⟩ := hL r List.mem_cons_self
    have hq : ¬ AllD p (quo r t) := fun q => h (by
      obtain ⟨q1, q2⟩ := quo_all q
      have e1 : ev r (e :: t) = e + r * ev r t := rfl
      have h3 : p ∣ e := by
        rw [e1] at hr
        exact (Int.dvd_add_left (Int.dvd_trans q2 (Int.dvd_mul_left r _))).mp hr
      intro x hx
      rcases List.mem_cons.mp hx with rfl | hx
      · exact h3
      · exact q1 x hx)
    have ih := roots_lt hp (quo r t) hq L n2 fun x hx => by
      obtain ⟨x0, xp, hx2⟩ := hL x (List.mem_cons_of_mem _ hx)
      refine ⟨x0, xp, ?_⟩
      have e2 := ev_quo x r t e
      have d : p ∣ (x - r) * ev x (quo r t) := by rw [← e2]; exact Int.dvd_sub hx2 hr
      rcases hp.2 _ _ d with k | k
      · exfalso
        have ne : x ≠ r := fun z => n1 (z ▸ hx)
        have : x - r = 0 := by
          obtain ⟨c, hc⟩ := k
          rcases Int.lt_trichotomy c 0 with q | q | q
          · have : p * c ≤ p * (-1) := Int.mul_le_mul_of_nonneg_left (by omega) (by omega)
            omega
          · rw [q] at hc; simpa using hc
          · have : p * 1 ≤ p * c := Int.mul_le_mul_of_nonneg_left (by omega) (by omega)
            omega
        omega
      · exact k
    rw [quo_len] at ih
    rw [List.length_cons, List.length_cons]
    omega
theorem pr_of {p : Nat} (h0 : 0 < p) (h : ∀ i < p, ∀ j < p, (i * j) % p = 0 → i = 0 ∨ j = 0) : Pr (p : Int) := by
  refine ⟨by omega, fun a b d => ?_⟩
  have q1 := Int.emod_nonneg a (show (p : Int) ≠ 0 by omega)
  have q2 := Int.emod_lt_of_pos a (show (0 : Int) < p by omega)
  have q3 := Int.emod_nonneg b (show (p : Int) ≠ 0 by omega)
  have q4 := Int.emod_lt_of_pos b (show (0 : Int) < p by omega)
  have e : (a % p) * (b % p) % p = 0 := by rw [← Int.mul_emod]; exact Int.emod_eq_zero_of_dvd d
  obtain ⟨i, hi⟩ := Int.eq_ofNat_of_zero_le q1
  obtain ⟨j, hj⟩ := Int.eq_ofNat_of_zero_le q3
  rw [hi, hj] at e
  have e' : (i * j) % p = 0 := by
    have : ((i * j % p : Nat) : Int) = 0 := by rw [Int.natCast_emod, Int.natCast_mul]; exact e
    omega
  rcases h i (by omega) j (by omega) e' with z | z
  · exact .inl (Int.dvd_of_emod_eq_zero (by rw [hi, z]; rfl))
  · exact .inr (Int.dvd_of_emod_eq_zero (by rw [hj, z]; rfl))
def prB (p : Nat) : Bool := (List.range p).all fun i => (List.range p).all fun j => !((i * j) % p == 0) || (i == 0 || j == 0)
theorem pr_b {p : Nat} (h0 : 0 < p) (h : prB p = true) : Pr (p : Int) := by
  refine pr_of h0 fun i hi j hj e => ?_
  have h1 := List.all_eq_true.mp (List.all_eq_true.mp h i (List.mem_range.mpr hi)) j (List.mem_range.mpr hj)
  rw [e] at h1
  simpa using h1
end BMP
namespace K39
open PySem PySem.Spec PyProof.Rows L2 BM
local macro_rules
  | `(tactic| simp_arith [$xs,*]) => `(tactic| simp -implicitDefEqProofs only [↓e_gen, ↓ob_some, ↓oo_some, ↓vr_some, ↓sl_some, ↓al_some, ↓fk_nx, ↓fk_bk, ↓fk_ct, ↓fk_rt, ↓lk_nx, ↓lk_bk, ↓lk_ct, ↓lk_rt, ↓rk_nx, ↓rk_rt, ↓ifk_t, ↓ifk_f, ↓rg1_int, ↓e_pure, ↓e_bind, ↓e_var, ↓e_fz, ↓e_mv, ↓e_C, ↓e_val, ↓e_pl, ↓e_mods0, ↓e_mods, ↓e_get0, ↓e_get, ↓e_getV, ↓e_getP, ↓e_flatD, ↓e_flatL, ↓leafs_leaf, ↓e_leafs0, ↓e_leafsD, ↓e_ops, ↓e_op, ↓e_tst, ↓e_bO, ↓e_w1, ↓e_w2, ↓e_w1b, ↓e_w2b, ↓e_truth1, ↓e_truthB, ↓e_truthI, ↓e_truthN, ↓e_truthL, ↓e_truthT, ↓e_args0, ↓e_args, ↓e_tup, ↓e_lst, ↓e_if, ↓e_sif, ↓e_or, ↓e_and, ↓e_not, ↓e_mnot, ↓e_yes, ↓e_mor, ↓e_mand, ↓e_mset, ↓e_set, ↓e_setO, ↓e_expr, ↓e_ret, ↓e_retN, ↓e_pass, ↓e_break, ↓e_cont, ↓e_seq, ↓e_gNm, ↓e_gTs0, ↓e_gTs, ↓e_gTp, ↓e_gTpST, ↓e_gTpSL, ↓e_tgt, ↓e_sfor, ↓e_for0, ↓e_for, ↓e_wipe0, ↓e_wipe, ↓e_iS, ↓e_listT, ↓e_listL, ↓e_iR1, ↓e_rev, ↓e_aval, ↓e_aplc, ↓e_mars0, ↓e_mars, ↓e_take0, ↓e_takeV, ↓e_takeP, ↓e_give0, ↓e_giveV, ↓e_giveP, ↓e_call, ↓e_callM, ↓e_in0, ↓e_inT, ↓e_inF, ↓e_outs0, ↓e_outsT, ↓e_outsF, ↓e_permF, ↓e_permL0, ↓e_permL, ↓pcons_some, ↓e_app, ↓e_msetB0, ↓e_msetB1, ↓e_par, ↓e_par3, ↓e_fld, ↓e_obj, ↓e_make, ↓mkK_ok, ↓e_enA, ↓e_rv, ↓e_dctS, ↓e_lrg, ↓e_isi, ↓e_upper, ↓e_revX, ↓revX_t, ↓e_iSX, ↓e_dct0, ↓e_chn, ↓chK_eq, ↓e_zipS, ↓e_zipL, ↓e_zipV, ↓e_fr, ↓e_zipT, ↓e_lower, ↓e_seqL, ↓e_seqT, ↓e_seqS, ↓e_fListXL, ↓e_fListXT, ↓e_join2, ↓joinK_str, ↓e_join, e_fEqZT, e_fEqZL, e_fNeZT, e_fNeZL, e_toD, e_toL, toDs_leaf, e_toDs0, e_toDs, e_fAddI, e_fSubI,  e_fLtI, e_fLeI, e_fGtI, e_fGeI, e_fEqI, e_fEqS, e_fEqB, ↓e_fNe, ↓e_fNotIn, ↓e_fIsN, e_fLenL, e_fLenT, e_fListL, e_fListT, e_fTupL, e_fTupT, e_fMin, e_fMax, e_fNegI,
      List.getElem?_cons_succ, List.getElem?_cons_zero, List.set_cons_succ, List.set_cons_zero, List.length_cons, List.length_nil, List.replicate_succ, List.replicate_zero, List.cons_append, List.nil_append, Nat.reduceAdd, Nat.reduceLT, Nat.reduceEqDiff, if_true, if_false, and_self, ite_true, ite_false, Bool.false_eq_true, Bool.not_true, Bool.not_false, Bool.or_true, Bool.true_or, decide_true, decide_false, eq_self, $xs,*])
def difI : List Nat → List Nat → List Int
  | u :: a, v :: b => ((u : Int) - (v : Int)) :: difI a b
  | _, _ => []
theorem dif_len : ∀ (a b : List Nat), a.length = b.length → (difI a b).length = a.length
  | [], [], _ => rfl
  | u :: a, v :: b, h => by
    rw [difI, List.length_cons, List.length_cons, dif_len a b (by simpa using h)]
  | [], _ :: _, h => by cases h
  | _ :: _, [], h => by cases h
theorem ev_dif (x : Nat) : ∀ (a b : List Nat), a.length = b.length → BMP.ev (x : Int) (difI a b) = (pval x a : Int) - (pval x b : Int)
  | [], [], _ => rfl
  | u :: a, v :: b, h => by
    have ih := ev_dif x a b (by simpa using h)
    show ((u : Int) - (v : Int)) + (x : Int) * BMP.ev (x : Int) (difI a b) = ((u + x * pval x a : Nat) : Int) - ((v + x * pval x b : Nat) : Int)
    rw [ih, Int.natCast_add, Int.natCast_add, Int.natCast_mul, Int.natCast_mul, Int.mul_sub]
    omega
  | [], _ :: _, h => by cases h
  | _ :: _, [], h => by cases h
theorem dif_all {p : Nat} : ∀ (a b : List Nat), a.length = b.length → (∀ u ∈ a, u < p) → (∀ v ∈ b, v < p) → BMP.AllD (p : Int) (difI a b) → a = b
  | [], [], _, _, _, _ => rfl
  | u :: a, v :: b, h, h1, h2, hd => by
    have ih := dif_all a b (by simpa using h) (fun z hz => h1 z (List.mem_cons_of_mem _ hz)) (fun z hz => h2 z (List.mem_cons_of_mem _ hz)) fun e he => hd e (List.mem_cons_of_mem _ he)
    have d : (p : Int) ∣ (u : Int) - (v : Int) := hd _ List.mem_cons_self
    have hu := h1 u List.mem_cons_self
    have hv := h2 v List.mem_cons_self
    have : u = v := by
      obtain ⟨c, hc⟩ := d
      rcases Int.lt_trichotomy c 0 with q | q | q
      · have : (p : Int) * c ≤ (p : Int) * (-1) := Int.mul_le_mul_of_nonneg_left (by omega) (by omega)
        omega
      · rw [q, Int.mul_zero] at hc; omega
      · have : (p : Int) * 1 ≤ (p : Int) * c := Int.mul_le_mul_of_nonneg_left (by omega) (by omega)
        omega
    rw [this, ih]
  | [], _ :: _, h, _, _, _ => by cases h
  | _ :: _, [], h, _, _, _ => by cases h
theorem pr_here {p : Nat} (hp : p ∈ prms) : BMP.Pr (p : Int) := by
  have z : prms.all BMP.prB = true := by decide +kernel
  exact BMP.pr_b (by have := prm_le p hp; omega) (List.all_eq_true.mp z p hp)
abbrev agrL (p w : Nat) (a b : List Nat) : List Nat := (List.range w).filter fun x => decide (rowv p a x = rowv p b x)
theorem agree_few {p w k : Nat} {a b : List Nat} (hp : p ∈ prms) (hw : w ≤ p) (la : a.length = k) (lb : b.length = k) (ha : ∀ u ∈ a, u < p) (hb : ∀ v ∈ b, v < p) (ne : a ≠ b) : (agrL p w a b).length < k := by
  have lab : a.length = b.length := la.trans lb.symm
  have h := BMP.roots_lt (pr_here hp) (difI a b) (fun z => ne (dif_all a b lab ha hb z)) ((agrL p w a b).map fun x : Nat => (x : Int)) (by
    unfold List.Nodup
    rw [List.pairwise_map]
    exact ((List.nodup_range).filter _).imp fun {x y} z e => z (by omega)) (fun x hx => by
    obtain ⟨y, hy, rfl⟩ := List.mem_map.mp hx
    obtain ⟨h1, h2⟩ := List.mem_filter.mp hy
    have h1 := List.mem_range.mp h1
    have h2 : pval y a % p = pval y b % p := of_decide_eq_true h2
    refine ⟨by omega, by omega, ?_⟩
    show (p : Int) ∣ BMP.ev ((y : Nat) : Int) (difI a b)
    rw [ev_dif y a b lab]
    refine Int.dvd_of_emod_eq_zero ?_
    rw [Int.sub_emod, ← Int.natCast_emod, ← Int.natCast_emod, h2, Int.sub_self]; rfl)
  rw [List.length_map, dif_len a b lab, la] at h
  exact h
theorem ltr_inj {a b : Nat} : ltr a = ltr b ↔ a = b := by
  constructor
  · intro h
    have h2 := congrArg (fun s : Str => s.cps) h
    simp [ltr] at h2
    omega
  · intro h; rw [h]
theorem eqvAll_dn : ∀ a b : List Nat, PyData.eqvAll (pyTs (a.map dn)) (pyTs (b.map dn)) = decide (a = b)
  | [], [] => by simp only [List.map_nil, pyTs]; rfl
  | [], y :: b => by simp only [List.map_nil, List.map_cons, pyTs]; rfl
  | x :: a, [] => by simp only [List.map_nil, List.map_cons, pyTs]; rfl
  | x :: a, y :: b => by
    rw [List.map_cons, List.map_cons, pyTs, pyTs, pyT, pyT]
    show ((((x : Nat) : Int) == ((y : Nat) : Int)) && PyData.eqvAll (pyTs (a.map dn)) (pyTs (b.map dn))) = _
    rw [eqvAll_dn a b]
    by_cases e : x = y
    · subst e; simp
    · have : (((x : Nat) : Int) == ((y : Nat) : Int)) = false := by
        rw [beq_eq_false_iff_ne]; omega
      rw [this, Bool.false_and, decide_eq_false (fun z => e (List.cons.inj z).1)]
theorem fNe_dns {a b : List Nat} (ha : ∀ x ∈ a, x < 2 ^ 31) (hb : ∀ x ∈ b, x < 2 ^ 31) : fNe (dns a) (dns b) = some (!decide (a = b)) := by
  have e : fEq (dns a) (dns b) = some (decide (a = b)) := by
    rw [fEq_ok (ok_dns ha) (ok_dns hb) (by have := dp_dns a; omega) (by have := dp_dns b; omega)]
    congr 1
    rw [dns, dns, pyT, pyT]
    exact eqvAll_dn a b
  unfold fNe
  rw [e]
theorem fEq_dl (u v : Nat) : fEq (dl u) (dl v) = some (decide (u = v)) := by
  rw [e_fEqS]
  congr 1
  exact decide_eq_decide.mpr ltr_inj
abbrev eQ (FB SH SM : D) (p w k : Nat) (x6 x8 x9 x10 : Option O) : BM.Env := [some (.d FB), some (.d SH), some (.d SM), some (.d (dn p)), some (.d (dn w)), some (.d (dn k)), x6, none, x8, x9, x10, none]
abbrev agW : M O := (mLc [11] (iR1 (mVar 4)) (gNm 11) (mTst (w2b fEq) [mval (mOp (w2 fIx) [mval (mOp (w2 fIx) [mval (mVar 6), mval (mVar 8)]), mval (mVar 11)]), mval (mOp (w2 fIx) [mval (mOp (w2 fIx) [mval (mVar 6), mval (mVar 9)]), mval (mVar 11)])]) (mVar 11))
abbrev bodyR : M Fl := (sSeq (sSet 10 agW)
  (sIf (tAnd (mTst (w2b fNe) [mval (mOp (w2 fIx) [mval (mVar 2), mval (mVar 8)]), mval (mOp (w2 fIx) [mval (mVar 2), mval (mVar 9)])]) (mTst (w2b fGe) [mval (mOp (w1 fLen) [mval (mVar 10)]), mval (mVar 5)])) (sRet (mC (.bl false))) (sPass)))
abbrev rwA : M O := (mLc [7] (iSX (mVar 2)) (gNm 7) (tYes) (mCall c_l_row [aval (mVar 3), aval (mVar 4), aval (mVar 7)]))
abbrev rwB (C : Addr) : M O := (mLc [7] (iSX (mVar 2)) (gNm 7) (tYes) (mCall (c_Formula_row C) [aval (mObj C ("row" : Str) (mVar 0)), aval (mVar 7)]))
theorem m_rows_eq (C : Addr) : m_l_rows_right C = sSeq (sTgt (gTpS [gNm 3, gNm 4, gNm 5]) (mVar 1))
  (sSeq (sSet 6 rwA)
  (sSeq (sIf (mTst (w2b fNe) [mval (mOp (w1 fReprN) [mval (rwB C)]), mval (mOp (w1 fReprN) [mval (mVar 6)])]) (sRet (mC (.bl false))) (sPass))
  (sSeq (sFor (iR1 (mOp (w1 fLen) [mval (mVar 2)])) (gNm 8) (sFor (iR1 (mVar 8)) (gNm 9) bodyR))
  (sRet (mOp (bO (w2b fEq)) [mval (mOp (w1 fReprN) [mval (mCall (permF [0, 1] [0, 1] (c_Formula_row C)) [aval (mObj C ("row" : Str) (mVar 0)), aval (mOp (w2 fIx) [mval (mVar 2), mval (mC (.int 2))])])]), mval (mOp (w1 fReprN) [mval (mOp (w2 fIx) [mval (mVar 6), mval (mC (.int 2))])])]))))) := rfl
section
variable {C : Addr} {p w k : Nat} {l : List (List Nat)}
theorem rwA_ok {FB SH : D} (hp : p ∈ prms) (hw : w ≤ 23) (hL : Lst p k l) (hl : l.length ≤ 100) : rwA (eQ FB SH (.lst (l.map dns)) p w k none none none none) = some (.lst (leaf (l.map (drow p w))), eQ FB SH (.lst (l.map dns)) p w k none none none none) := by
  have hp2 := prm_le p hp
  refine x_lcM (emb := dns) (h := drow p w) l rfl rfl (by rw [sizeLine_eq]; omega) fun c hc => ?_
  have lr := r_lrow (p := p) (w := w) c (fun x hx => by have := hL.lt c hc x hx; omega) (by omega) (by omega) (by omega)
  refine ⟨[some (.d FB), some (.d SH), some (.d (.lst (l.map dns))), some (.d (dn p)), some (.d (dn w)), some (.d (dn k)), none, some (.d (dns c)), none, none, none, none], rfl, ?_, rfl⟩
  generalize D.lst (l.map dns) = SM at *
  generalize drow p w c = DR at *
  generalize dns c = DN at *
  simp_arith [lr]
theorem rwB_ok {SH : D} {x6 : Option O} (hp : p ∈ prms) (hw : w ≤ 23) (hl : l.length ≤ 100) : rwB C (eQ (fob C p w k) SH (.lst (l.map dns)) p w k x6 none none none) = some (.lst (leaf (l.map (drow p w))), eQ (fob C p w k) SH (.lst (l.map dns)) p w k x6 none none none) := by
  have hp2 := prm_le p hp
  refine x_lcM (emb := dns) (h := drow p w) l rfl rfl (by rw [sizeLine_eq]; omega) fun c hc => ?_
  have fr := r_frow (C := C) (k := k) c (by omega : 0 < p) (by omega) (by omega : w ≤ 1000)
  have oh : ∀ s : BM.Env, objK C ("row" : Str) (.d (fob C p w k)) s = some (.d (fob C p w k), s) := fun s => o_row
  refine ⟨[some (.d (fob C p w k)), some (.d SH), some (.d (.lst (l.map dns))), some (.d (dn p)), some (.d (dn w)), some (.d (dn k)), x6, some (.d (dns c)), none, none, none, none], rfl, ?_, rfl⟩
  generalize D.lst (l.map dns) = SM at *
  generalize drow p w c = DR at *
  generalize dns c = DN at *
  generalize fob C p w k = FB at *
  simp_arith [oh, fr]
theorem turnR {FB SH : D} (hp : p ∈ prms) (hw : w ≤ p) (hL : Lst p k l) {i j : Nat} (hi : i < l.length) (hj : j < l.length) (x10 : Option O) : ∃ y10, bodyR (eQ FB SH (.lst (l.map dns)) p w k (some (.d (.lst (l.map (drow p w))))) (some (.d (dn i))) (some (.d (dn j))) x10)
    = some (.nx, eQ FB SH (.lst (l.map dns)) p w k (some (.d (.lst (l.map (drow p w))))) (some (.d (dn i))) (some (.d (dn j))) y10) := by
  have hp2 := prm_le p hp
  have r1 : fIx (.lst (l.map (drow p w))) (.int ((i : Nat) : Int)) = some (.d (drow p w l[i])) := fIx_l (by rw [List.getElem?_map, List.getElem?_eq_getElem hi]; rfl)
  have r2 : fIx (.lst (l.map (drow p w))) (.int ((j : Nat) : Int)) = some (.d (drow p w l[j])) := fIx_l (by rw [List.getElem?_map, List.getElem?_eq_getElem hj]; rfl)
  have s1 : fIx (.lst (l.map dns)) (.int ((i : Nat) : Int)) = some (.d (dns l[i])) := fIx_l (by rw [List.getElem?_map, List.getElem?_eq_getElem hi]; rfl)
  have s2 : fIx (.lst (l.map dns)) (.int ((j : Nat) : Int)) = some (.d (dns l[j])) := fIx_l (by rw [List.getElem?_map, List.getElem?_eq_getElem hj]; rfl)
  have ri : (-(2 : Int) ^ 62 ≤ ((w : Nat) : Int) ∧ ((w : Nat) : Int) < 2 ^ 62) := by omega
  have src : iR1 (mVar 4) (eQ FB SH (.lst (l.map dns)) p w k (some (.d (.lst (l.map (drow p w))))) (some (.d (dn i))) (some (.d (dn j))) x10) = some ((List.range w).map dn, eQ FB SH (.lst (l.map dns)) p w k (some (.d (.lst (l.map (drow p w))))) (some (.d (dn i))) (some (.d (dn j))) x10) := by
    have z := x_iR1 (m := mVar 4) (s := eQ FB SH (.lst (l.map dns)) p w k (some (.d (.lst (l.map (drow p w))))) (some (.d (dn i))) (some (.d (dn j))) x10) (s1 := eQ FB SH (.lst (l.map dns)) p w k (some (.d (.lst (l.map (drow p w))))) (some (.d (dn i))) (some (.d (dn j))) x10) (j := (w : Nat)) rfl ri
    rw [Int.toNat_natCast, upto_nat] at z
    exact z
  have lc := x_lcF (emb := dn) (own := [11]) (src := iR1 (mVar 4)) (g := gNm 11) (t := mTst (w2b fEq) [mval (mOp (w2 fIx) [mval (mOp (w2 fIx) [mval (mVar 6), mval (mVar 8)]), mval (mVar 11)]), mval (mOp (w2 fIx) [mval (mOp (w2 fIx) [mval (mVar 6), mval (mVar 9)]), mval (mVar 11)])]) (elt := mVar 11) (f := fun x => decide (rowv p l[i] x = rowv p l[j] x)) (h := dn)
    (s0 := eQ FB SH (.lst (l.map dns)) p w k (some (.d (.lst (l.map (drow p w))))) (some (.d (dn i))) (some (.d (dn j))) x10) (s1 := eQ FB SH (.lst (l.map dns)) p w k (some (.d (.lst (l.map (drow p w))))) (some (.d (dn i))) (some (.d (dn j))) x10) (List.range w) src rfl (by rw [List.length_range, sizeLine_eq]; omega) fun x hx => by
      have hx := List.mem_range.mp hx
      have at_ : ∀ c : List Nat, fIx (drow p w c) (.int ((x : Nat) : Int)) = some (.d (dl (rowv p c x))) := fun c => fIx_t (by
        unfold rowI
        rw [List.getElem?_map, List.getElem?_map, List.getElem?_range hx]; rfl)
      exact ⟨[some (.d FB), some (.d SH), some (.d (.lst (l.map dns))), some (.d (dn p)), some (.d (dn w)), some (.d (dn k)), some (.d (.lst (l.map (drow p w)))), none, some (.d (dn i)), some (.d (dn j)), x10, some (.d (dn x))], rfl, x_tv2 (x_v2 (x_v2 rfl rfl r1) rfl (at_ _)) (x_v2 (x_v2 rfl rfl r2) rfl (at_ _)) (fEq_dl _ _), fun _ => rfl, rfl⟩
  have la : ((List.range w).filter fun x => decide (rowv p l[i] x = rowv p l[j] x)) = agrL p w l[i] l[j] := rfl
  rw [la] at lc
  refine ⟨some (.d (.lst ((agrL p w l[i] l[j]).map dn))), x_seq (s1 := eQ FB SH (.lst (l.map dns)) p w k (some (.d (.lst (l.map (drow p w))))) (some (.d (dn i))) (some (.d (dn j))) (some (.d (.lst ((agrL p w l[i] l[j]).map dn))))) (x_set lc rfl (by rw [O.toD, toDs_leaf]; rfl)) ?_⟩
  have ne := fNe_dns (a := l[i]) (b := l[j]) (fun x hx => by have := hL.lt _ (List.getElem_mem hi) x hx; omega) (fun x hx => by have := hL.lt _ (List.getElem_mem hj) x hx; omega)
  have t1 : mTst (w2b fNe) [mval (mOp (w2 fIx) [mval (mVar 2), mval (mVar 8)]), mval (mOp (w2 fIx) [mval (mVar 2), mval (mVar 9)])] (eQ FB SH (.lst (l.map dns)) p w k (some (.d (.lst (l.map (drow p w))))) (some (.d (dn i))) (some (.d (dn j))) (some (.d (.lst ((agrL p w l[i] l[j]).map dn)))))
      = some (!decide (l[i] = l[j]), eQ FB SH (.lst (l.map dns)) p w k (some (.d (.lst (l.map (drow p w))))) (some (.d (dn i))) (some (.d (dn j))) (some (.d (.lst ((agrL p w l[i] l[j]).map dn))))) := x_tv2 (x_v2 rfl rfl s1) (x_v2 rfl rfl s2) ne
  by_cases e : l[i] = l[j]
  · rw [decide_eq_true e] at t1
    exact x_sifF (x_andF t1) rfl
  · rw [decide_eq_false e] at t1
    have few := agree_few hp hw (hL.len _ (List.getElem_mem hi)) (hL.len _ (List.getElem_mem hj)) (hL.lt _ (List.getElem_mem hi)) (hL.lt _ (List.getElem_mem hj)) e
    clear lc la src
    generalize agrL p w l[i] l[j] = A at *
    have hI : decide (((k : Nat) : Int) ≤ (((A.map dn).length : Nat) : Int)) = false := decide_eq_false (by rw [List.length_map]; omega)
    have t2 : mTst (w2b fGe) [mval (mOp (w1 fLen) [mval (mVar 10)]), mval (mVar 5)] (eQ FB SH (.lst (l.map dns)) p w k (some (.d (.lst (l.map (drow p w))))) (some (.d (dn i))) (some (.d (dn j))) (some (.d (.lst (A.map dn))))) = some (false, eQ FB SH (.lst (l.map dns)) p w k (some (.d (.lst (l.map (drow p w))))) (some (.d (dn i))) (some (.d (dn j))) (some (.d (.lst (A.map dn))))) := by
      generalize D.lst (l.map dns) = SM at *
      generalize D.lst (l.map (drow p w)) = RM at *
      generalize A.map dn = AA at *
      simp_arith [eQ, hI]
    exact x_sifF (x_andT t1 t2) rfl
end
end K39
set_option Elab.async false
set_option linter.all false
set_option maxRecDepth 100000
set_option maxHeartbeats 4000000
namespace K39
open PySem PySem.Spec PyProof.Rows L2 BM
local macro_rules
  | `(tactic| simp_arith [$xs,*]) => `(tactic| simp -implicitDefEqProofs only [↓e_gen, ↓ob_some, ↓oo_some, ↓vr_some, ↓sl_some, ↓al_some, ↓fk_nx, ↓fk_bk, ↓fk_ct, ↓fk_rt, ↓lk_nx, ↓lk_bk, ↓lk_ct, ↓lk_rt, ↓rk_nx, ↓rk_rt, ↓ifk_t, ↓ifk_f, ↓rg1_int, ↓e_pure, ↓e_bind, ↓e_var, ↓e_fz, ↓e_mv, ↓e_C, ↓e_val, ↓e_pl, ↓e_mods0, ↓e_mods, ↓e_get0, ↓e_get, ↓e_getV, ↓e_getP, ↓e_flatD, ↓e_flatL, ↓leafs_leaf, ↓e_leafs0, ↓e_leafsD, ↓e_ops, ↓e_op, ↓e_tst, ↓e_bO, ↓e_w1, ↓e_w2, ↓e_w1b, ↓e_w2b, ↓e_truth1, ↓e_truthB, ↓e_truthI, ↓e_truthN, ↓e_truthL, ↓e_truthT, ↓e_args0, ↓e_args, ↓e_tup, ↓e_lst, ↓e_if, ↓e_sif, ↓e_or, ↓e_and, ↓e_not, ↓e_mnot, ↓e_yes, ↓e_mor, ↓e_mand, ↓e_mset, ↓e_set, ↓e_setO, ↓e_expr, ↓e_ret, ↓e_retN, ↓e_pass, ↓e_break, ↓e_cont, ↓e_seq, ↓e_gNm, ↓e_gTs0, ↓e_gTs, ↓e_gTp, ↓e_gTpST, ↓e_gTpSL, ↓e_tgt, ↓e_sfor, ↓e_for0, ↓e_for, ↓e_wipe0, ↓e_wipe, ↓e_iS, ↓e_listT, ↓e_listL, ↓e_iR1, ↓e_rev, ↓e_aval, ↓e_aplc, ↓e_mars0, ↓e_mars, ↓e_take0, ↓e_takeV, ↓e_takeP, ↓e_give0, ↓e_giveV, ↓e_giveP, ↓e_call, ↓e_callM, ↓e_in0, ↓e_inT, ↓e_inF, ↓e_outs0, ↓e_outsT, ↓e_outsF, ↓e_permF, ↓e_permL0, ↓e_permL, ↓pcons_some, ↓e_app, ↓e_msetB0, ↓e_msetB1, ↓e_par, ↓e_par3, ↓e_fld, ↓e_obj, ↓e_make, ↓mkK_ok, ↓e_enA, ↓e_rv, ↓e_dctS, ↓e_lrg, ↓e_isi, ↓e_upper, ↓e_revX, ↓revX_t, ↓e_iSX, ↓e_dct0, ↓e_chn, ↓chK_eq, ↓e_zipS, ↓e_zipL, ↓e_zipV, ↓e_fr, ↓e_zipT, ↓e_lower, ↓e_seqL, ↓e_seqT, ↓e_seqS, ↓e_fListXL, ↓e_fListXT, ↓e_join2, ↓joinK_str, ↓e_join, e_fEqZT, e_fEqZL, e_fNeZT, e_fNeZL, e_toD, e_toL, toDs_leaf, e_toDs0, e_toDs, e_fAddI, e_fSubI,  e_fLtI, e_fLeI, e_fGtI, e_fGeI, e_fEqI, e_fEqS, e_fEqB, ↓e_fNe, ↓e_fNotIn, ↓e_fIsN, e_fLenL, e_fLenT, e_fListL, e_fListT, e_fTupL, e_fTupT, e_fMin, e_fMax, e_fNegI,
      List.getElem?_cons_succ, List.getElem?_cons_zero, List.set_cons_succ, List.set_cons_zero, List.length_cons, List.length_nil, List.replicate_succ, List.replicate_zero, List.cons_append, List.nil_append, Nat.reduceAdd, Nat.reduceLT, Nat.reduceEqDiff, if_true, if_false, and_self, ite_true, ite_false, Bool.false_eq_true, Bool.not_true, Bool.not_false, Bool.or_true, Bool.true_or, decide_true, decide_false, eq_self, $xs,*])
theorem t_same (x : Str) : w2b fNe [(O.d (.str x)).toD, (O.d (.str x)).toD] = some false := by
  rw [O.toD, e_w2b]; exact fNe_same x
theorem t_eqV (x : Str) : bO (w2b fEq) [(O.d (.str x)).toD, (O.d (.str x)).toD] = some (.d (.bl true)) := by
  rw [O.toD]
  show (match w2b fEq [D.str x, D.str x] with | some b => some (O.d (.bl b)) | none => none) = _
  rw [e_w2b, e_fEqS, decide_eq_true rfl]
section
variable {C : Addr} {p w k : Nat} {l : List (List Nat)}
theorem outer {FB SH : D} (hp : p ∈ prms) (hw : w ≤ p) (hL : Lst p k l) (hl : l.length ≤ 100) {i : Nat} (hi : i < l.length) (x9 x10 : Option O) : ∃ y9 y10, sFor (iR1 (mVar 8)) (gNm 9) bodyR (eQ FB SH (.lst (l.map dns)) p w k (some (.d (.lst (l.map (drow p w))))) (some (.d (dn i))) x9 x10)
    = some (.nx, eQ FB SH (.lst (l.map dns)) p w k (some (.d (.lst (l.map (drow p w))))) (some (.d (dn i))) y9 y10) := by
  obtain ⟨s', l1, y9, y10, rfl⟩ := x_forS (emb := dn) (g := gNm 9) (body := bodyR) (P := fun _ s => ∃ y9 y10, s = eQ FB SH (.lst (l.map dns)) p w k (some (.d (.lst (l.map (drow p w))))) (some (.d (dn i))) y9 y10)
    (s0 := eQ FB SH (.lst (l.map dns)) p w k (some (.d (.lst (l.map (drow p w))))) (some (.d (dn i))) x9 x10) (List.range i) ⟨x9, x10, rfl⟩ fun j x s hx ⟨z9, z10, es⟩ => by
      subst es
      have hx2 := List.mem_range.mp (List.mem_of_getElem? hx)
      obtain ⟨y10, e⟩ := turnR (FB := FB) (SH := SH) hp hw hL hi (by omega : x < l.length) z10
      exact ⟨_, _, rfl, e, ⟨_, _, rfl⟩⟩
  refine ⟨y9, y10, ?_⟩
  have ri : (-(2 : Int) ^ 62 ≤ ((i : Nat) : Int) ∧ ((i : Nat) : Int) < 2 ^ 62) := by omega
  have z := x_iR1 (m := mVar 8) (s := eQ FB SH (.lst (l.map dns)) p w k (some (.d (.lst (l.map (drow p w))))) (some (.d (dn i))) x9 x10) (s1 := eQ FB SH (.lst (l.map dns)) p w k (some (.d (.lst (l.map (drow p w))))) (some (.d (dn i))) x9 x10) (j := (i : Nat)) rfl ri
  rw [Int.toNat_natCast, upto_nat] at z
  rw [e_sfor, z, ob_some]
  exact l1
theorem r_rows (hp : p ∈ prms) (hw : w ≤ p) (hL : Lst p k l) (hl : l.length = 10) : c_l_rows_right C [.d (fob C p w k), .d (.tup [dn p, dn w, dn k]), .d (.lst (l.map dns))] = some (.d (.bl true), [.d (fob C p w k), .d (.tup [dn p, dn w, dn k]), .d (.lst (l.map dns))]) := by
  have hp2 := prm_le p hp
  have q1 := rwA_ok (FB := fob C p w k) (SH := .tup [dn p, dn w, dn k]) hp (by omega : w ≤ 23) hL (by omega : l.length ≤ 100)
  have q2 := rwB_ok (C := C) (SH := .tup [dn p, dn w, dn k]) (k := k) (l := l) (x6 := some (.d (.lst (l.map (drow p w))))) hp (by omega : w ≤ 23) (by omega : l.length ≤ 100)
  have sh : Shw (.lst (l.map (drow p w))) 20000 2 := Shw.lst (fun c _ => shw_row (by omega) (by omega) (by omega)) (by omega)
  have rp := sh.rep (by omega) (by omega)
  have st : sSet 6 rwA (eQ (fob C p w k) (.tup [dn p, dn w, dn k]) (.lst (l.map dns)) p w k none none none none) = some (.nx, eQ (fob C p w k) (.tup [dn p, dn w, dn k]) (.lst (l.map dns)) p w k (some (.d (.lst (l.map (drow p w))))) none none none) := x_set q1 rfl (by rw [O.toD, toDs_leaf]; rfl)
  have f1 : mOp (w1 fReprN) [mval (rwB C)] (eQ (fob C p w k) (.tup [dn p, dn w, dn k]) (.lst (l.map dns)) p w k (some (.d (.lst (l.map (drow p w))))) none none none) = some (.d (.str (rpN (.lst (l.map (drow p w))))), eQ (fob C p w k) (.tup [dn p, dn w, dn k]) (.lst (l.map dns)) p w k (some (.d (.lst (l.map (drow p w))))) none none none) := x_v1 q2 (by rw [O.toD, toDs_leaf]; exact rp)
  have f2 : mOp (w1 fReprN) [mval (mVar 6)] (eQ (fob C p w k) (.tup [dn p, dn w, dn k]) (.lst (l.map dns)) p w k (some (.d (.lst (l.map (drow p w))))) none none none) = some (.d (.str (rpN (.lst (l.map (drow p w))))), eQ (fob C p w k) (.tup [dn p, dn w, dn k]) (.lst (l.map dns)) p w k (some (.d (.lst (l.map (drow p w))))) none none none) := x_v1 rfl rp
  obtain ⟨s', l1, x8, x9, x10, rfl⟩ := x_forS (emb := dn) (g := gNm 8) (body := sFor (iR1 (mVar 8)) (gNm 9) bodyR) (P := fun _ s => ∃ x8 x9 x10, s = eQ (fob C p w k) (.tup [dn p, dn w, dn k]) (.lst (l.map dns)) p w k (some (.d (.lst (l.map (drow p w))))) x8 x9 x10)
    (s0 := eQ (fob C p w k) (.tup [dn p, dn w, dn k]) (.lst (l.map dns)) p w k (some (.d (.lst (l.map (drow p w))))) none none none) (List.range l.length) ⟨none, none, none, rfl⟩ fun j x s hx ⟨z8, z9, z10, es⟩ => by
      subst es
      have hx2 := List.mem_range.mp (List.mem_of_getElem? hx)
      obtain ⟨y9, y10, e⟩ := outer (FB := fob C p w k) (SH := .tup [dn p, dn w, dn k]) hp hw hL (by omega) hx2 z9 z10
      exact ⟨_, _, rfl, e, ⟨_, _, _, rfl⟩⟩
  have ri : (-(2 : Int) ^ 62 ≤ ((l.length : Nat) : Int) ∧ ((l.length : Nat) : Int) < 2 ^ 62) := by omega
  have z := x_iR1 (m := mOp (w1 fLen) [mval (mVar 2)]) (s := eQ (fob C p w k) (.tup [dn p, dn w, dn k]) (.lst (l.map dns)) p w k (some (.d (.lst (l.map (drow p w))))) none none none) (s1 := eQ (fob C p w k) (.tup [dn p, dn w, dn k]) (.lst (l.map dns)) p w k (some (.d (.lst (l.map (drow p w))))) none none none) (j := (l.length : Nat)) (by
    generalize D.lst (l.map (drow p w)) = RM
    generalize fob C p w k = FB
    simp_arith [eQ, List.length_map]) ri
  rw [Int.toNat_natCast, upto_nat] at z
  have lp : sFor (iR1 (mOp (w1 fLen) [mval (mVar 2)])) (gNm 8) (sFor (iR1 (mVar 8)) (gNm 9) bodyR) (eQ (fob C p w k) (.tup [dn p, dn w, dn k]) (.lst (l.map dns)) p w k (some (.d (.lst (l.map (drow p w))))) none none none) = some (.nx, eQ (fob C p w k) (.tup [dn p, dn w, dn k]) (.lst (l.map dns)) p w k (some (.d (.lst (l.map (drow p w))))) x8 x9 x10) := by
    rw [e_sfor, z, ob_some]; exact l1
  have i2 : 2 < l.length := by omega
  have r1 : fIx (.lst (l.map (drow p w))) (.int 2) = some (.d (drow p w l[2])) := fIx_l (i := 2) (by rw [List.getElem?_map, List.getElem?_eq_getElem i2]; rfl)
  have s1 : fIx (.lst (l.map dns)) (.int 2) = some (.d (dns l[2])) := fIx_l (i := 2) (by rw [List.getElem?_map, List.getElem?_eq_getElem i2]; rfl)
  have fr := r_frow (C := C) (k := k) l[2] (by omega : 0 < p) (by omega) (by omega : w ≤ 1000)
  have sr := (shw_row (p := p) (w := w) (c := l[2]) (by omega) (by omega) (by omega)).rep (by omega) (by omega)
  have g1 : mOp (w1 fReprN) [mval (mCall (permF [0, 1] [0, 1] (c_Formula_row C)) [aval (mObj C ("row" : Str) (mVar 0)), aval (mOp (w2 fIx) [mval (mVar 2), mval (mC (.int 2))])])] (eQ (fob C p w k) (.tup [dn p, dn w, dn k]) (.lst (l.map dns)) p w k (some (.d (.lst (l.map (drow p w))))) x8 x9 x10) = some (.d (.str (rpN (drow p w l[2]))), eQ (fob C p w k) (.tup [dn p, dn w, dn k]) (.lst (l.map dns)) p w k (some (.d (.lst (l.map (drow p w))))) x8 x9 x10) := by
    have oh : ∀ s : BM.Env, objK C ("row" : Str) (.d (fob C p w k)) s = some (.d (fob C p w k), s) := fun s => o_row
    have p1 : permL [0, 1] [fob C p w k, dns l[2]] = [fob C p w k, dns l[2]] := rfl
    generalize D.lst (l.map (drow p w)) = RM at *
    generalize D.lst (l.map dns) = SM at *
    generalize fob C p w k = FB at *
    generalize drow p w l[2] = DR at *
    generalize dns l[2] = DN at *
    simp_arith [eQ, s1, oh, p1, fr, sr]
  have g2 : mOp (w1 fReprN) [mval (mOp (w2 fIx) [mval (mVar 6), mval (mC (.int 2))])] (eQ (fob C p w k) (.tup [dn p, dn w, dn k]) (.lst (l.map dns)) p w k (some (.d (.lst (l.map (drow p w))))) x8 x9 x10) = some (.d (.str (rpN (drow p w l[2]))), eQ (fob C p w k) (.tup [dn p, dn w, dn k]) (.lst (l.map dns)) p w k (some (.d (.lst (l.map (drow p w))))) x8 x9 x10) := x_v1 (x_v2 rfl rfl r1) sr
  rw [c_l_rows_right, m_rows_eq]
  refine x_call (s1 := eQ (fob C p w k) (.tup [dn p, dn w, dn k]) (.lst (l.map dns)) p w k (some (.d (.lst (l.map (drow p w))))) x8 x9 x10) rfl (x_seq (s1 := eQ (fob C p w k) (.tup [dn p, dn w, dn k]) (.lst (l.map dns)) p w k none none none none) rfl (x_seq st (x_seq (x_sifF (x_tv2 f1 f2 (t_same _)) rfl) (x_seq lp (x_ret (x_v2 g1 g2 (t_eqV _))))))) rfl
end
end K39
set_option Elab.async false
set_option linter.all false
set_option maxRecDepth 100000
set_option maxHeartbeats 4000000
namespace K39
open PySem PySem.Spec PyProof.Rows L2 BM
local macro_rules
  | `(tactic| simp_arith [$xs,*]) => `(tactic| simp -implicitDefEqProofs only [↓e_gen, ↓ob_some, ↓oo_some, ↓vr_some, ↓sl_some, ↓al_some, ↓fk_nx, ↓fk_bk, ↓fk_ct, ↓fk_rt, ↓lk_nx, ↓lk_bk, ↓lk_ct, ↓lk_rt, ↓rk_nx, ↓rk_rt, ↓ifk_t, ↓ifk_f, ↓rg1_int, ↓e_pure, ↓e_bind, ↓e_var, ↓e_fz, ↓e_mv, ↓e_C, ↓e_val, ↓e_pl, ↓e_mods0, ↓e_mods, ↓e_get0, ↓e_get, ↓e_getV, ↓e_getP, ↓e_flatD, ↓e_flatL, ↓leafs_leaf, ↓e_leafs0, ↓e_leafsD, ↓e_ops, ↓e_op, ↓e_tst, ↓e_bO, ↓e_w1, ↓e_w2, ↓e_w1b, ↓e_w2b, ↓e_truth1, ↓e_truthB, ↓e_truthI, ↓e_truthN, ↓e_truthL, ↓e_truthT, ↓e_args0, ↓e_args, ↓e_tup, ↓e_lst, ↓e_if, ↓e_sif, ↓e_or, ↓e_and, ↓e_not, ↓e_mnot, ↓e_yes, ↓e_mor, ↓e_mand, ↓e_mset, ↓e_set, ↓e_setO, ↓e_expr, ↓e_ret, ↓e_retN, ↓e_pass, ↓e_break, ↓e_cont, ↓e_seq, ↓e_gNm, ↓e_gTs0, ↓e_gTs, ↓e_gTp, ↓e_gTpST, ↓e_gTpSL, ↓e_tgt, ↓e_sfor, ↓e_for0, ↓e_for, ↓e_wipe0, ↓e_wipe, ↓e_iS, ↓e_listT, ↓e_listL, ↓e_iR1, ↓e_rev, ↓e_aval, ↓e_aplc, ↓e_mars0, ↓e_mars, ↓e_take0, ↓e_takeV, ↓e_takeP, ↓e_give0, ↓e_giveV, ↓e_giveP, ↓e_call, ↓e_callM, ↓e_in0, ↓e_inT, ↓e_inF, ↓e_outs0, ↓e_outsT, ↓e_outsF, ↓e_permF, ↓e_permL0, ↓e_permL, ↓pcons_some, ↓e_app, ↓e_msetB0, ↓e_msetB1, ↓e_par, ↓e_par3, ↓e_fld, ↓e_obj, ↓e_make, ↓mkK_ok, ↓e_enA, ↓e_rv, ↓e_dctS, ↓e_lrg, ↓e_isi, ↓e_upper, ↓e_revX, ↓revX_t, ↓e_iSX, ↓e_dct0, ↓e_chn, ↓chK_eq, ↓e_zipS, ↓e_zipL, ↓e_zipV, ↓e_fr, ↓e_zipT, ↓e_lower, ↓e_seqL, ↓e_seqT, ↓e_seqS, ↓e_fListXL, ↓e_fListXT, ↓e_join2, ↓joinK_str, ↓e_join, e_fEqZT, e_fEqZL, e_fNeZT, e_fNeZL, e_toD, e_toL, toDs_leaf, e_toDs0, e_toDs, e_fAddI, e_fSubI,  e_fLtI, e_fLeI, e_fGtI, e_fGeI, e_fEqI, e_fEqS, e_fEqB, ↓e_fNe, ↓e_fNotIn, ↓e_fIsN, e_fLenL, e_fLenT, e_fListL, e_fListT, e_fTupL, e_fTupT, e_fMin, e_fMax, e_fNegI,
      List.getElem?_cons_succ, List.getElem?_cons_zero, List.set_cons_succ, List.set_cons_zero, List.length_cons, List.length_nil, List.replicate_succ, List.replicate_zero, List.cons_append, List.nil_append, Nat.reduceAdd, Nat.reduceLT, Nat.reduceEqDiff, if_true, if_false, and_self, ite_true, ite_false, Bool.false_eq_true, Bool.not_true, Bool.not_false, Bool.or_true, Bool.true_or, decide_true, decide_false, eq_self, $xs,*])
theorem appI {i : Nat} {me : M O} {s s1 : BM.Env} {os0 os : List O} {y : O} (h0 : s[i]? = some (some (.lst os0))) (h : me s = some (y, s1)) (h1 : s1[i]? = some (some (.lst os))) (hz : os.length < sizeLine) : mApp i me s = some (.d .non, s1.set i (some (.lst (os ++ [y])))) := by
  rw [e_app, h0]
  show ob (me s) _ = _
  rw [h, ob_some, h1]
  exact if_pos hz
abbrev eB (dk : O) (FB SH SM : D) (p w k : Nat) (left : List Str) (named : List Cq) (x9 x10 x11 x12 x15 : Option O) : BM.Env := [some dk, some (.d FB), some (.d SH), some (.d SM), some (.d (dn p)), some (.d (dn w)), some (.d (dn k)), some (.lst (leaf (left.map D.str))), some (.lst (leaf (named.map cqD))), x9, x10, x11, x12, none, none, x15]
abbrev drw7 : M O := (mCall c_l_draw [aplc' 0, aval (mOp (w1 fLen) [mPl 7])])
abbrev pck3 : M O := (mCall c_l_pick [aplc' 0, aval (mVar 3)])
abbrev bodyN : M Fl := (sExpr (mApp 8 (mTup [mPopAt 7 drw7, pck3])))
structure Nmd (p k : Nat) (left : List Str) (named : List Cq) : Prop where
  pm : (left ++ named.map (·.1)).Perm nm5
  len : ∀ c ∈ named, c.2.length = k
  lt : ∀ c ∈ named, ∀ x ∈ c.2, x < p
theorem erase_perm {α : Type} : ∀ (l : List α) (i : Nat) (h : i < l.length), (l[i] :: l.eraseIdx i).Perm l
  | [], _, h => absurd h (Nat.not_lt_zero _)
  | x :: l, 0, _ => List.Perm.refl _
  | x :: l, i + 1, h => by
    have ih := erase_perm l i (by simpa using h)
    rw [List.getElem_cons_succ, List.eraseIdx_cons_succ]
    exact (List.Perm.swap _ _ _).trans (ih.cons x)
theorem nm5_nd : nm5.Nodup := by decide +kernel
theorem Nmd.cpt {p k : Nat} {left : List Str} {named : List Cq} (h : Nmd p k left named) : CpT p k named := by
  have nd : (left ++ named.map (·.1)).Nodup := (h.pm.nodup_iff).mpr nm5_nd
  exact ⟨fun c hc => h.pm.subset (List.mem_append_right _ (List.mem_map.mpr ⟨c, hc, rfl⟩)), nd.sublist (List.sublist_append_right _ _), h.len, h.lt⟩
theorem Nmd.cnt {p k : Nat} {left : List Str} {named : List Cq} (h : Nmd p k left named) : left.length + named.length = 5 := by
  have z := h.pm.length_eq
  rw [List.length_append, List.length_map] at z
  exact z
theorem n_turn {n p w k : Nat} {dk : O} {FB SH : D} {l : List (List Nat)} (hD : Deck n dk) (hn : n + 10 < 2 ^ 39) (hL : Lst p k l) (hl : l.length = 10) {left : List Str} {named : List Cq} (hN : Nmd p k left named) (h0 : 1 ≤ left.length) (x9 : Option O) :
    ∃ (dk' : O) (left' : List Str) (named' : List Cq), bodyN (eB dk FB SH (.lst (l.map dns)) p w k left named x9 none none none none) = some (.nx, eB dk' FB SH (.lst (l.map dns)) p w k left' named' x9 none none none none) ∧ Deck (n + 2) dk' ∧ Nmd p k left' named' ∧ named'.length = named.length + 1 := by
  have cn := hN.cnt
  obtain ⟨v, k1, a1, a2, a3⟩ := r_draw hD (many := left.length) (by omega) (by omega)
  have hv : left[v]? = some left[v] := List.getElem?_eq_getElem a3
  obtain ⟨d, k2, b1, b2, b3⟩ := r_pickO a2 (by omega) (o := .d (.lst (l.map dns))) (it := .lst (l.map dns)) (l := l.map dns) rfl rfl (by intro e; have := congrArg List.length e; rw [List.length_map, hl] at this; exact absurd this (by decide)) (by rw [List.length_map]; omega)
  obtain ⟨c, hc, rfl⟩ := List.mem_map.mp b3
  have me : drw7 (eB dk FB SH (.lst (l.map dns)) p w k left named x9 none none none none) = some (.d (dn v), eB k1 FB SH (.lst (l.map dns)) p w k left named x9 none none none none) := by
    have a1 : c_l_draw [dk, .d (.int (((left.map D.str).length : Nat) : Int))] = some (.d (dn v), [k1, .d (.int (((left.map D.str).length : Nat) : Int))]) := by rw [List.length_map]; exact a1
    generalize D.lst (l.map dns) = SM at *
    generalize leaf (named.map cqD) = NN at *
    simp_arith [eB, a1]
  have pp := x_popL (emb := D.str) (i := 7) (v := v) (me := drw7) (s := eB dk FB SH (.lst (l.map dns)) p w k left named x9 none none none none) (s1 := eB k1 FB SH (.lst (l.map dns)) p w k left named x9 none none none none) (xs := leaf (left.map D.str)) (l := left) (x := left[v]) rfl me rfl hv
  have pk : pck3 (eB k1 FB SH (.lst (l.map dns)) p w k (left.eraseIdx v) named x9 none none none none) = some (.d (dns c), eB k2 FB SH (.lst (l.map dns)) p w k (left.eraseIdx v) named x9 none none none none) := by
    generalize D.lst (l.map dns) = SM at *
    generalize leaf (named.map cqD) = NN at *
    generalize leaf ((left.eraseIdx v).map D.str) = LL at *
    generalize dns c = DC at *
    simp_arith [eB, b1]
  have tp : mTup [mPopAt 7 drw7, pck3] (eB dk FB SH (.lst (l.map dns)) p w k left named x9 none none none none) = some (.d (cqD (left[v], c)), eB k2 FB SH (.lst (l.map dns)) p w k (left.eraseIdx v) named x9 none none none none) := by
    refine (x_tup (os := [.d (.str left[v]), .d (dns c)]) (x_args pp (x_args pk x_args0))).trans ?_
    rw [O.toDs, O.toDs, O.toDs, O.toD, O.toD]
  have ap := appI (i := 8) (os0 := leaf (named.map cqD)) (os := leaf (named.map cqD)) rfl tp rfl (by rw [leaf_len, List.length_map, sizeLine_eq]; omega)
  refine ⟨k2, left.eraseIdx v, named ++ [(left[v], c)], (x_expr ap).trans ?_, b2, ⟨?_, ?_, ?_⟩, by rw [List.length_append]; rfl⟩
  · have e : leaf (named.map cqD) ++ [.d (cqD (left[v], c))] = leaf ((named ++ [(left[v], c)]).map cqD) := by
      rw [leaf, leaf, List.map_append (l₁ := named), List.map_append (f := O.d)]; rfl
    rw [e]; rfl
  · rw [List.map_append]
    have q := erase_perm left v a3
    show (left.eraseIdx v ++ (named.map (·.1) ++ [left[v]])).Perm nm5
    refine List.Perm.trans ?_ hN.pm
    rw [← List.append_assoc]
    refine (List.perm_append_singleton _ _).trans ?_
    exact (show (left[v] :: (left.eraseIdx v ++ named.map (·.1))) = (left[v] :: left.eraseIdx v) ++ named.map (·.1) from rfl) ▸ q.append_right _
  · intro d hd
    rcases List.mem_append.mp hd with hd | hd
    · exact hN.len d hd
    · rw [List.mem_singleton.mp hd]; exact hL.len c hc
  · intro d hd
    rcases List.mem_append.mp hd with hd | hd
    · exact hN.lt d hd
    · rw [List.mem_singleton.mp hd]; exact hL.lt c hc
end K39
set_option Elab.async false
set_option linter.all false
set_option maxRecDepth 100000
set_option maxHeartbeats 4000000
namespace K39
open PySem PySem.Spec PyProof.Rows L2 BM
local macro_rules
  | `(tactic| simp_arith [$xs,*]) => `(tactic| simp -implicitDefEqProofs only [↓e_gen, ↓ob_some, ↓oo_some, ↓vr_some, ↓sl_some, ↓al_some, ↓fk_nx, ↓fk_bk, ↓fk_ct, ↓fk_rt, ↓lk_nx, ↓lk_bk, ↓lk_ct, ↓lk_rt, ↓rk_nx, ↓rk_rt, ↓ifk_t, ↓ifk_f, ↓rg1_int, ↓e_pure, ↓e_bind, ↓e_var, ↓e_fz, ↓e_mv, ↓e_C, ↓e_val, ↓e_pl, ↓e_mods0, ↓e_mods, ↓e_get0, ↓e_get, ↓e_getV, ↓e_getP, ↓e_flatD, ↓e_flatL, ↓leafs_leaf, ↓e_leafs0, ↓e_leafsD, ↓e_ops, ↓e_op, ↓e_tst, ↓e_bO, ↓e_w1, ↓e_w2, ↓e_w1b, ↓e_w2b, ↓e_truth1, ↓e_truthB, ↓e_truthI, ↓e_truthN, ↓e_truthL, ↓e_truthT, ↓e_args0, ↓e_args, ↓e_tup, ↓e_lst, ↓e_if, ↓e_sif, ↓e_or, ↓e_and, ↓e_not, ↓e_mnot, ↓e_yes, ↓e_mor, ↓e_mand, ↓e_mset, ↓e_set, ↓e_setO, ↓e_expr, ↓e_ret, ↓e_retN, ↓e_pass, ↓e_break, ↓e_cont, ↓e_seq, ↓e_gNm, ↓e_gTs0, ↓e_gTs, ↓e_gTp, ↓e_gTpST, ↓e_gTpSL, ↓e_tgt, ↓e_sfor, ↓e_for0, ↓e_for, ↓e_wipe0, ↓e_wipe, ↓e_iS, ↓e_listT, ↓e_listL, ↓e_iR1, ↓e_rev, ↓e_aval, ↓e_aplc, ↓e_mars0, ↓e_mars, ↓e_take0, ↓e_takeV, ↓e_takeP, ↓e_give0, ↓e_giveV, ↓e_giveP, ↓e_call, ↓e_callM, ↓e_in0, ↓e_inT, ↓e_inF, ↓e_outs0, ↓e_outsT, ↓e_outsF, ↓e_permF, ↓e_permL0, ↓e_permL, ↓pcons_some, ↓e_app, ↓e_msetB0, ↓e_msetB1, ↓e_par, ↓e_par3, ↓e_fld, ↓e_obj, ↓e_make, ↓mkK_ok, ↓e_enA, ↓e_rv, ↓e_dctS, ↓e_lrg, ↓e_isi, ↓e_upper, ↓e_revX, ↓revX_t, ↓e_iSX, ↓e_dct0, ↓e_chn, ↓chK_eq, ↓e_zipS, ↓e_zipL, ↓e_zipV, ↓e_fr, ↓e_zipT, ↓e_lower, ↓e_seqL, ↓e_seqT, ↓e_seqS, ↓e_fListXL, ↓e_fListXT, ↓e_join2, ↓joinK_str, ↓e_join, e_fEqZT, e_fEqZL, e_fNeZT, e_fNeZL, e_toD, e_toL, toDs_leaf, e_toDs0, e_toDs, e_fAddI, e_fSubI,  e_fLtI, e_fLeI, e_fGtI, e_fGeI, e_fEqI, e_fEqS, e_fEqB, ↓e_fNe, ↓e_fNotIn, ↓e_fIsN, e_fLenL, e_fLenT, e_fListL, e_fListT, e_fTupL, e_fTupT, e_fMin, e_fMax, e_fNegI,
      List.getElem?_cons_succ, List.getElem?_cons_zero, List.set_cons_succ, List.set_cons_zero, List.length_cons, List.length_nil, List.replicate_succ, List.replicate_zero, List.cons_append, List.nil_append, Nat.reduceAdd, Nat.reduceLT, Nat.reduceEqDiff, if_true, if_false, and_self, ite_true, ite_false, Bool.false_eq_true, Bool.not_true, Bool.not_false, Bool.or_true, Bool.true_or, decide_true, decide_false, eq_self, $xs,*])
abbrev rwW : M O := (mOp (w1 fTuple) [mval (mLc [13, 14] (iSX (mOp (w1 fSortedE) [mPl 8])) (gTpS [gNm 13, gNm 14]) (tYes) (mTup [mVar 13, mCall c_l_row [aval (mVar 4), aval (mVar 5), aval (mVar 14)]]))])
abbrev spW : M O := (mOp (w2 fMulY) [mval (mTup [mOp (w1 fTuple) [mval (mOp (w1 fListX) [mval (mOp fSlH [mval (mC (.str ("ABCDEFGHIJKLMNOPQRSTUVWXYZ" : Str))), mval (mVar 4)])])]]), mval (mVar 5)])
abbrev tsW (B : Addr) : M Bool := (tOr (mTst (w2b fNe) [mval (mOp (w1 fReprN) [mval (mTup [mFld B ("places" : Str) (mVar 11), mFld B ("copies" : Str) (mVar 11)])]), mval (mOp (w1 fReprN) [mval (mTup [mVar 15, mVar 12])])]) (tNot (mTst truth1 [mval (mIsO B (mVar 11))])))
abbrev mkW (B : Addr) : M O := (mMake B (c_Book___init__ B) [aval (mVar 15), aval (mVar 12)])
abbrev rvW (B F : Addr) : M O := (mCall (c_l_made B F) [aval (mVar 1), aval (mRev (mFz 8))])
abbrev kpW : M O := (mOp (w1 fReprN) [mPl 8])
abbrev mdW (B F : Addr) : M O := (mCall (c_l_made B F) [aval (mVar 1), aval (mFz 8)])
theorem m_book_eq (B F : Addr) : m_l_book_right B F = sSeq (sTgt (gTpS [gNm 4, gNm 5, gNm 6]) (mVar 2))
  (sSeq (sPar 7 true 8 true (mLst [mC (.str ("b" : Str)), mC (.str ("bb" : Str)), mC (.str ("abcdefgh" : Str)), mC (.str ("zz" : Str)), mC (.str ("ba" : Str))]) (mLst []))
  (sSeq (sFor (iR1 (mCall c_l_draw [aplc' 0, aval (mC (.int 6))])) (gNm 9) bodyN)
  (sSeq (sPar 10 false 11 false kpW (mdW B F))
  (sSeq (sSet 12 rwW)
  (sSeq (sSet 15 spW)
  (sSeq (sIf (tsW B) (sRet (mC (.bl false))) (sPass))
  (sRet (mAnd (mEqV B (c_Book___eq__ B) (mVar 11) (mkW B)) (mAnd (mEqV B (c_Book___eq__ B) (mVar 11) (rvW B F)) (mOp (bO (w2b fEq)) [mval kpW, mval (mVar 10)]))))))))))  := rfl
theorem toD_leaf (l : List D) : O.toD (.lst (leaf l)) = .lst l := by
  show D.lst (O.toDs (leaf l)) = _
  rw [toDs_leaf]
theorem made_val (B F : Addr) (a o : O) : c_l_made B F [a, o] = c_l_made B F [a, .d o.toD] := rfl
abbrev eC (dk : O) (FB SH SM : D) (p w k : Nat) (left : List Str) (x8 x9 x10 x11 x12 x15 : Option O) : BM.Env := [some dk, some (.d FB), some (.d SH), some (.d SM), some (.d (dn p)), some (.d (dn w)), some (.d (dn k)), some (.lst (leaf (left.map D.str))), x8, x9, x10, x11, x12, none, none, x15]
section
variable {B F : Addr} {p w k : Nat} {left : List Str} {named : List Cq} {dk : O} {SH SM : D}
theorem kp_ok1 (hC : CpT p k named) (hp2 : p ≤ 23) (hk : k ≤ 4) {FB : D} (x9 x10 x11 x12 x15 : Option O) : kpW (eC dk FB SH SM p w k left (some (.lst (leaf (named.map cqD)))) x9 x10 x11 x12 x15) = some (.d (.str (rpN (.lst (named.map cqD)))), eC dk FB SH SM p w k left (some (.lst (leaf (named.map cqD)))) x9 x10 x11 x12 x15) := by
  have rp := (shw_named hC hp2 hk).rep (by omega) (by omega)
  generalize named.map cqD = NN at *
  simp_arith [eC, rp]
theorem kp_ok (hC : CpT p k named) (hp2 : p ≤ 23) (hk : k ≤ 4) {FB : D} (x9 x10 x11 x12 x15 : Option O) : kpW (eC dk FB SH SM p w k left (some (.d (.lst (named.map cqD)))) x9 x10 x11 x12 x15) = some (.d (.str (rpN (.lst (named.map cqD)))), eC dk FB SH SM p w k left (some (.d (.lst (named.map cqD)))) x9 x10 x11 x12 x15) := by
  have rp := (shw_named hC hp2 hk).rep (by omega) (by omega)
  generalize named.map cqD = NN at *
  simp_arith [eC, rp]
theorem md_ok (h1 : 1 ≤ p) (hp2 : p ≤ 23) (hw : w ≤ 23) (hC : CpT p k named) (x9 x10 x11 x12 x15 : Option O) : ∃ o, mdW B F (eC dk (fob F p w k) SH SM p w k left (some (.lst (leaf (named.map cqD)))) x9 x10 x11 x12 x15) = some (o, eC dk (fob F p w k) SH SM p w k left (some (.d (.lst (named.map cqD)))) x9 x10 x11 x12 x15) ∧ o.toD = bk B (plcF p w) (cpsF p w (srtC named)) := by
  obtain ⟨o, e1, e2⟩ := r_made (B := B) (F := F) (w := w) h1 hp2 hw hC
  refine ⟨o, ?_, e2⟩
  generalize fob F p w k = FB at *
  generalize named.map cqD = NN at *
  simp_arith [eC, e1]
theorem rv_ok (h1 : 1 ≤ p) (hp2 : p ≤ 23) (hw : w ≤ 23) (hC : CpT p k named) (x9 x10 x11 x12 x15 : Option O) : ∃ o, rvW B F (eC dk (fob F p w k) SH SM p w k left (some (.d (.lst (named.map cqD)))) x9 x10 x11 x12 x15) = some (o, eC dk (fob F p w k) SH SM p w k left (some (.d (.lst (named.map cqD)))) x9 x10 x11 x12 x15) ∧ o.toD = bk B (plcF p w) (cpsF p w (srtC named)) := by
  have pr : named.reverse.Perm named := List.reverse_perm _
  have hR := hC.perm pr
  obtain ⟨o, e1, e2⟩ := r_made (B := B) (F := F) (w := w) h1 hp2 hw hR
  have es : srtC named.reverse = srtC named := srtC_same hR.nd pr
  rw [es] at e2
  refine ⟨o, ?_, e2⟩
  have e1 : c_l_made B F [.d (fob F p w k), .lst (leaf (named.map cqD).reverse)] = some (o, [.d (fob F p w k), .d (.lst (named.map cqD).reverse)]) := by
    rw [made_val, toD_leaf, ← List.map_reverse]; exact e1
  generalize fob F p w k = FB at *
  generalize named.map cqD = NN at *
  simp_arith [eC, e1]
theorem rw_ok (hp : 0 < p) (hp2 : p ≤ 23) (hw : w ≤ 23) (hC : CpT p k named) {FB : D} (x9 x10 x11 : Option O) : rwW (eC dk FB SH SM p w k left (some (.d (.lst (named.map cqD)))) x9 x10 x11 none none) = some (.d (csD (cpsF p w (srtC named))), eC dk FB SH SM p w k left (some (.d (.lst (named.map cqD)))) x9 x10 x11 none none) := by
  have so := sort_cq hC
  have src : iSX (mOp (w1 fSortedE) [mPl 8]) (eC dk FB SH SM p w k left (some (.d (.lst (named.map cqD)))) x9 x10 x11 none none) = some ((srtC named).map cqD, eC dk FB SH SM p w k left (some (.d (.lst (named.map cqD)))) x9 x10 x11 none none) := by
    generalize (srtC named).map cqD = N2 at *
    generalize named.map cqD = NN at *
    simp_arith [eC, so, seqD]
  have hS := hC.perm (srtC_perm named)
  have l5 := hS.l5
  have lc := x_lcM (emb := cqD) (own := [13, 14]) (src := iSX (mOp (w1 fSortedE) [mPl 8])) (g := gTpS [gNm 13, gNm 14]) (elt := mTup [mVar 13, mCall c_l_row [aval (mVar 4), aval (mVar 5), aval (mVar 14)]]) (h := fun c => D.tup [.str c.1, drow p w c.2])
    (s0 := eC dk FB SH SM p w k left (some (.d (.lst (named.map cqD)))) x9 x10 x11 none none) (s1 := eC dk FB SH SM p w k left (some (.d (.lst (named.map cqD)))) x9 x10 x11 none none) (srtC named) src rfl (by rw [sizeLine_eq]; omega) fun c hc => by
      have lr := r_lrow (p := p) (w := w) c.2 (fun x hx => by have := hS.lt c hc x hx; omega) hp (by omega) (by omega)
      refine ⟨[some dk, some (.d FB), some (.d SH), some (.d SM), some (.d (dn p)), some (.d (dn w)), some (.d (dn k)), some (.lst (leaf (left.map D.str))), some (.d (.lst (named.map cqD))), x9, x10, x11, none, some (.d (.str c.1)), some (.d (dns c.2)), none], rfl, ?_, rfl⟩
      generalize drow p w c.2 = DR at *
      generalize dns c.2 = DN at *
      simp_arith [lr]
  refine x_v1 lc ?_
  rw [toD_leaf]
  have e : (srtC named).map (fun c => D.tup [.str c.1, drow p w c.2]) = (cpsF p w (srtC named)).map cpD := by
    unfold cpsF
    rw [List.map_map]
    refine List.map_congr_left fun c _ => ?_
    show _ = D.tup [.str c.1, plD (rowF p w c.2)]
    rw [rowD]
  rw [e]; rfl
theorem sp_ok (hp2 : p ≤ 23) (hw : w ≤ 23) {FB : D} (x9 x10 x11 x12 : Option O) : spW (eC dk FB SH SM p w k left (some (.d (.lst (named.map cqD)))) x9 x10 x11 x12 none) = some (.d (psD (plcF p w)), eC dk FB SH SM p w k left (some (.d (.lst (named.map cqD)))) x9 x10 x11 x12 none) := by
  obtain ⟨x, x1, x2, x3⟩ := list_abc p (by omega)
  have lx : fListX (.str x) = some (.lst (leaf ((ltrs p).map D.str))) := by
    show (if x.cps.size ≤ sizeLine then some (O.lst (leaf (sgs x))) else none) = _
    rw [if_pos x2, x3]
  have t1 : fTuple (.lst ((ltrs p).map D.str)) = some (.d (plD (ltrs p))) := rfl
  have mu := fMulY_ok (a := [plD (ltrs p)]) (by simp) (by simp) (k := w) (by omega)
  rw [flat_rep] at mu
  have mu : fMulY (.tup [plD (ltrs p)]) (.int ((w : Nat) : Int)) = some (.d (psD (plcF p w))) := by
    rw [mu]
    unfold plcF
    rw [psD, List.map_replicate]
  generalize psD (plcF p w) = PP at *
  generalize (ltrs p).map D.str = AA at *
  generalize plD (ltrs p) = BB at *
  simp_arith [eC, toDs_leaf, x1, lx, t1, mu]
theorem mk_ok (h1 : 1 ≤ p) (hp2 : p ≤ 23) (hw : w ≤ 23) (hC : CpT p k named) {FB : D} (x9 x10 x11 : Option O) : mkW B (eC dk FB SH SM p w k left (some (.d (.lst (named.map cqD)))) x9 x10 x11 (some (.d (csD (cpsF p w (srtC named))))) (some (.d (psD (plcF p w))))) = some (.obj B [("places" : Str), ("copies" : Str)] [.d (psD (plcF p w)), .d (csD (cpsF p w (srtC named)))], eC dk FB SH SM p w k left (some (.d (.lst (named.map cqD)))) x9 x10 x11 (some (.d (csD (cpsF p w (srtC named))))) (some (.d (psD (plcF p w))))) := by
  have bo := r_Book B (plsF h1 hp2 hw) (cpsT (w := w) h1 (hC.perm (srtC_perm named)) (srtC_asc hC.nd))
  generalize csD (cpsF p w (srtC named)) = KK at *
  generalize psD (plcF p w) = PP at *
  simp_arith [eC, bo]
theorem ts_ok (h1 : 1 ≤ p) (hp2 : p ≤ 23) (hw : w ≤ 23) (hC : CpT p k named) {FB : D} (x9 x10 : Option O) : tsW B (eC dk FB SH SM p w k left (some (.d (.lst (named.map cqD)))) x9 x10 (some (.d (bk B (plcF p w) (cpsF p w (srtC named))))) (some (.d (csD (cpsF p w (srtC named))))) (some (.d (psD (plcF p w))))) = some (false, eC dk FB SH SM p w k left (some (.d (.lst (named.map cqD)))) x9 x10 (some (.d (bk B (plcF p w) (cpsF p w (srtC named))))) (some (.d (csD (cpsF p w (srtC named))))) (some (.d (psD (plcF p w))))) := by
  have sh := Shw.pair (shw_ps (w := w) h1 hp2 hw) (shw_cs (w := w) (hC.perm (srtC_perm named)) h1 hp2 hw)
  have rp := sh.rep (by omega) (by omega)
  have ne := fNe_same (rpN (.tup [psD (plcF p w), csD (cpsF p w (srtC named))]))
  have fp : ∀ s : BM.Env, fldK B ("places" : Str) (.d (bk B (plcF p w) (cpsF p w (srtC named)))) s = some (.d (psD (plcF p w)), s) := fun s => f_places
  have fc : ∀ s : BM.Env, fldK B ("copies" : Str) (.d (bk B (plcF p w) (cpsF p w (srtC named)))) s = some (.d (csD (cpsF p w (srtC named))), s) := fun s => f_copies
  have io : ∀ s : BM.Env, s[11]? = some (some (.d (bk B (plcF p w) (cpsF p w (srtC named))))) → mIsO B (mVar 11) s = some (.d (.bl true), s) := fun s hs => e_isO (o := .d (bk B (plcF p w) (cpsF p w (srtC named)))) (by unfold mVar; rw [hs]) rfl
  have i2 := io (eC dk FB SH SM p w k left (some (.d (.lst (named.map cqD)))) x9 x10 (some (.d (bk B (plcF p w) (cpsF p w (srtC named))))) (some (.d (csD (cpsF p w (srtC named))))) (some (.d (psD (plcF p w))))) rfl
  clear io
  generalize rpN (.tup [psD (plcF p w), csD (cpsF p w (srtC named))]) = RR at *
  generalize bk B (plcF p w) (cpsF p w (srtC named)) = BB at *
  generalize csD (cpsF p w (srtC named)) = KK at *
  generalize psD (plcF p w) = PP at *
  rw [eC] at i2
  have e0 : fEq (.str RR) (.str RR) = some true := by rw [e_fEqS, decide_eq_true rfl]
  simp_arith [eC, fp, fc, rp, e0, i2]
end
end K39
set_option Elab.async false
set_option linter.all false
set_option maxRecDepth 100000
set_option maxHeartbeats 4000000
namespace K39
open PySem PySem.Spec PyProof.Rows L2 BM
local macro_rules
  | `(tactic| simp_arith [$xs,*]) => `(tactic| simp -implicitDefEqProofs only [↓e_gen, ↓ob_some, ↓oo_some, ↓vr_some, ↓sl_some, ↓al_some, ↓fk_nx, ↓fk_bk, ↓fk_ct, ↓fk_rt, ↓lk_nx, ↓lk_bk, ↓lk_ct, ↓lk_rt, ↓rk_nx, ↓rk_rt, ↓ifk_t, ↓ifk_f, ↓rg1_int, ↓e_pure, ↓e_bind, ↓e_var, ↓e_fz, ↓e_mv, ↓e_C, ↓e_val, ↓e_pl, ↓e_mods0, ↓e_mods, ↓e_get0, ↓e_get, ↓e_getV, ↓e_getP, ↓e_flatD, ↓e_flatL, ↓leafs_leaf, ↓e_leafs0, ↓e_leafsD, ↓e_ops, ↓e_op, ↓e_tst, ↓e_bO, ↓e_w1, ↓e_w2, ↓e_w1b, ↓e_w2b, ↓e_truth1, ↓e_truthB, ↓e_truthI, ↓e_truthN, ↓e_truthL, ↓e_truthT, ↓e_args0, ↓e_args, ↓e_tup, ↓e_lst, ↓e_if, ↓e_sif, ↓e_or, ↓e_and, ↓e_not, ↓e_mnot, ↓e_yes, ↓e_mor, ↓e_mand, ↓e_mset, ↓e_set, ↓e_setO, ↓e_expr, ↓e_ret, ↓e_retN, ↓e_pass, ↓e_break, ↓e_cont, ↓e_seq, ↓e_gNm, ↓e_gTs0, ↓e_gTs, ↓e_gTp, ↓e_gTpST, ↓e_gTpSL, ↓e_tgt, ↓e_sfor, ↓e_for0, ↓e_for, ↓e_wipe0, ↓e_wipe, ↓e_iS, ↓e_listT, ↓e_listL, ↓e_iR1, ↓e_rev, ↓e_aval, ↓e_aplc, ↓e_mars0, ↓e_mars, ↓e_take0, ↓e_takeV, ↓e_takeP, ↓e_give0, ↓e_giveV, ↓e_giveP, ↓e_call, ↓e_callM, ↓e_in0, ↓e_inT, ↓e_inF, ↓e_outs0, ↓e_outsT, ↓e_outsF, ↓e_permF, ↓e_permL0, ↓e_permL, ↓pcons_some, ↓e_app, ↓e_msetB0, ↓e_msetB1, ↓e_par, ↓e_par3, ↓e_fld, ↓e_obj, ↓e_make, ↓mkK_ok, ↓e_enA, ↓e_rv, ↓e_dctS, ↓e_lrg, ↓e_isi, ↓e_upper, ↓e_revX, ↓revX_t, ↓e_iSX, ↓e_dct0, ↓e_chn, ↓chK_eq, ↓e_zipS, ↓e_zipL, ↓e_zipV, ↓e_fr, ↓e_zipT, ↓e_lower, ↓e_seqL, ↓e_seqT, ↓e_seqS, ↓e_fListXL, ↓e_fListXT, ↓e_join2, ↓joinK_str, ↓e_join, e_fEqZT, e_fEqZL, e_fNeZT, e_fNeZL, e_toD, e_toL, toDs_leaf, e_toDs0, e_toDs, e_fAddI, e_fSubI,  e_fLtI, e_fLeI, e_fGtI, e_fGeI, e_fEqI, e_fEqS, e_fEqB, ↓e_fNe, ↓e_fNotIn, ↓e_fIsN, e_fLenL, e_fLenT, e_fListL, e_fListT, e_fTupL, e_fTupT, e_fMin, e_fMax, e_fNegI,
      List.getElem?_cons_succ, List.getElem?_cons_zero, List.set_cons_succ, List.set_cons_zero, List.length_cons, List.length_nil, List.replicate_succ, List.replicate_zero, List.cons_append, List.nil_append, Nat.reduceAdd, Nat.reduceLT, Nat.reduceEqDiff, if_true, if_false, and_self, ite_true, ite_false, Bool.false_eq_true, Bool.not_true, Bool.not_false, Bool.or_true, Bool.true_or, decide_true, decide_false, eq_self, $xs,*])
section
variable {B F : Addr} {p w k : Nat} {l : List (List Nat)}
theorem andT {a b : M O} {s : BM.Env} {r : Option (O × BM.Env)} (h : a s = some (.d (.bl true), s)) (h2 : b s = r) : mAnd a b s = r := by
  subst h2
  generalize hb : b s = q
  have : mAnd a b s = ob (a s) fun o s1 => b s1 := by
    rw [h, ob_some]
    unfold mAnd
    rw [e_bind, h]
    rfl
  rw [this, h, ob_some, hb]
theorem r_book {n : Nat} {dk : O} (hD : Deck n dk) (hn : n + 100 < 2 ^ 39) (hp : p ∈ prms) (hw : w ≤ p) (hk2 : k ≤ 4) (hL : Lst p k l) (hl : l.length = 10) :
    ∃ (dk' : O) (n' : Nat), c_l_book_right B F [dk, .d (fob F p w k), .d (.tup [dn p, dn w, dn k]), .d (.lst (l.map dns))] = some (.d (.bl true), [dk', .d (fob F p w k), .d (.tup [dn p, dn w, dn k]), .d (.lst (l.map dns))]) ∧ Deck n' dk' ∧ n' ≤ n + 20 := by
  have hp2 := prm_le p hp
  obtain ⟨v, k1, a1, a2, a3⟩ := r_draw hD (many := 6) (by omega) (by omega)
  have a1 : c_l_draw [dk, .d (.int 6)] = some (.d (dn v), [k1, .d (.int 6)]) := a1
  have N0 : Nmd p k nm5 [] := ⟨by rw [List.map_nil, List.append_nil], fun c h => (by cases h), fun c h => (by cases h)⟩
  obtain ⟨s', l1, k2, left, named, x9, rfl, q1, q2, q3⟩ := x_forS (emb := dn) (g := gNm 9) (body := bodyN) (P := fun j s => ∃ (dk' : O) (left : List Str) (named : List Cq) (x9 : Option O), s = eB dk' (fob F p w k) (.tup [dn p, dn w, dn k]) (.lst (l.map dns)) p w k left named x9 none none none none ∧ Deck (n + 1 + 2 * j) dk' ∧ Nmd p k left named ∧ named.length = j)
    (s0 := eB k1 (fob F p w k) (.tup [dn p, dn w, dn k]) (.lst (l.map dns)) p w k nm5 [] none none none none none) (List.range v) ⟨k1, nm5, [], none, rfl, a2, N0, rfl⟩ fun j x s hx ⟨dk', left, named, x9, es, q1, q2, q3⟩ => by
      subst es
      have hj : j < v := by have := (List.getElem?_eq_some_iff.mp hx).1; rw [List.length_range] at this; exact this
      have cn := q2.cnt
      obtain ⟨dk2, left2, named2, e1, e2, e3, e4⟩ := n_turn (w := w) (FB := fob F p w k) (SH := .tup [dn p, dn w, dn k]) q1 (by omega) hL hl q2 (by omega) (some (.d (dn x)))
      exact ⟨_, _, rfl, e1, dk2, left2, named2, _, rfl, e2, e3, by omega⟩
  rw [List.length_range] at q1
  have hC := q2.cpt
  have src : iR1 (mCall c_l_draw [aplc' 0, aval (mC (.int 6))]) (eB dk (fob F p w k) (.tup [dn p, dn w, dn k]) (.lst (l.map dns)) p w k nm5 [] none none none none none) = some ((List.range v).map dn, eB k1 (fob F p w k) (.tup [dn p, dn w, dn k]) (.lst (l.map dns)) p w k nm5 [] none none none none none) := by
    have z := x_iR1 (m := mCall c_l_draw [aplc' 0, aval (mC (.int 6))]) (s := eB dk (fob F p w k) (.tup [dn p, dn w, dn k]) (.lst (l.map dns)) p w k nm5 [] none none none none none) (s1 := eB k1 (fob F p w k) (.tup [dn p, dn w, dn k]) (.lst (l.map dns)) p w k nm5 [] none none none none none) (j := (v : Nat)) (by
      generalize D.lst (l.map dns) = SM
      generalize fob F p w k = FB
      generalize D.tup [dn p, dn w, dn k] = SH
      simp_arith [eB, a1]) (by omega)
    rw [Int.toNat_natCast, upto_nat] at z
    exact z
  have lp : sFor (iR1 (mCall c_l_draw [aplc' 0, aval (mC (.int 6))])) (gNm 9) bodyN (eB dk (fob F p w k) (.tup [dn p, dn w, dn k]) (.lst (l.map dns)) p w k nm5 [] none none none none none) = some (.nx, eB k2 (fob F p w k) (.tup [dn p, dn w, dn k]) (.lst (l.map dns)) p w k left named x9 none none none none) := by
    rw [e_sfor, src, ob_some]; exact l1
  have kp := kp_ok1 (left := left) (dk := k2) (SH := .tup [dn p, dn w, dn k]) (SM := .lst (l.map dns)) (w := w) (FB := fob F p w k) hC hp2.2 hk2 x9 none none none none
  obtain ⟨o, md, ho⟩ := md_ok (B := B) (F := F) (left := left) (dk := k2) (SH := .tup [dn p, dn w, dn k]) (SM := .lst (l.map dns)) (w := w) (by omega) hp2.2 (by omega) hC x9 none none none none
  have s4 : sPar 10 false 11 false kpW (mdW B F) (eB k2 (fob F p w k) (.tup [dn p, dn w, dn k]) (.lst (l.map dns)) p w k left named x9 none none none none) = some (.nx, eC k2 (fob F p w k) (.tup [dn p, dn w, dn k]) (.lst (l.map dns)) p w k left (some (.d (.lst (named.map cqD)))) x9 (some (.d (.str (rpN (.lst (named.map cqD)))))) (some (.d (bk B (plcF p w) (cpsF p w (srtC named))))) none none) := by
    rw [e_par]
    refine (congrArg (fun z => ob z _) kp).trans ?_
    rw [ob_some]
    refine (congrArg (fun z => ob z _) md).trans ?_
    rw [ob_some, ← ho]; rfl
  have s5 := x_set (i := 12) (rw_ok (left := left) (dk := k2) (SH := .tup [dn p, dn w, dn k]) (SM := .lst (l.map dns)) (w := w) (FB := fob F p w k) (by omega) hp2.2 (by omega) hC x9 (some (.d (.str (rpN (.lst (named.map cqD)))))) (some (.d (bk B (plcF p w) (cpsF p w (srtC named)))))) rfl rfl
  have s6 := x_set (i := 15) (sp_ok (named := named) (left := left) (dk := k2) (k := k) (SH := .tup [dn p, dn w, dn k]) (SM := .lst (l.map dns)) (p := p) (w := w) (FB := fob F p w k) hp2.2 (by omega) x9 (some (.d (.str (rpN (.lst (named.map cqD)))))) (some (.d (bk B (plcF p w) (cpsF p w (srtC named))))) (some (.d (csD (cpsF p w (srtC named)))))) rfl rfl
  have s7 := ts_ok (B := B) (left := left) (dk := k2) (SH := .tup [dn p, dn w, dn k]) (SM := .lst (l.map dns)) (w := w) (FB := fob F p w k) (by omega) hp2.2 (by omega) hC x9 (some (.d (.str (rpN (.lst (named.map cqD))))))
  have mk := mk_ok (B := B) (left := left) (dk := k2) (SH := .tup [dn p, dn w, dn k]) (SM := .lst (l.map dns)) (w := w) (FB := fob F p w k) (by omega) hp2.2 (by omega) hC x9 (some (.d (.str (rpN (.lst (named.map cqD)))))) (some (.d (bk B (plcF p w) (cpsF p w (srtC named)))))
  obtain ⟨o2, rv, ho2⟩ := rv_ok (B := B) (F := F) (left := left) (dk := k2) (SH := .tup [dn p, dn w, dn k]) (SM := .lst (l.map dns)) (w := w) (by omega) hp2.2 (by omega) hC x9 (some (.d (.str (rpN (.lst (named.map cqD)))))) (some (.d (bk B (plcF p w) (cpsF p w (srtC named))))) (some (.d (csD (cpsF p w (srtC named))))) (some (.d (psD (plcF p w))))
  have kp2 := kp_ok (left := left) (dk := k2) (SH := .tup [dn p, dn w, dn k]) (SM := .lst (l.map dns)) (w := w) (FB := fob F p w k) hC hp2.2 hk2 x9 (some (.d (.str (rpN (.lst (named.map cqD)))))) (some (.d (bk B (plcF p w) (cpsF p w (srtC named))))) (some (.d (csD (cpsF p w (srtC named))))) (some (.d (psD (plcF p w))))
  have hS := hC.perm (srtC_perm named)
  have eq := r_eq (C := B) (w := w) hS (by omega) hp2.2
  have tb : O.toD (.obj B [("places" : Str), ("copies" : Str)] [.d (psD (plcF p w)), .d (csD (cpsF p w (srtC named)))]) = bk B (plcF p w) (cpsF p w (srtC named)) := by rw [O.toD, O.toDs, O.toDs, O.toDs, O.toD, O.toD]
  have v1 := e_eqV (e_eqO (C := B) (fn := c_Book___eq__ B) (ma := mVar 11) (mb := mkW B) (o1 := .d (bk B (plcF p w) (cpsF p w (srtC named)))) (s := eC k2 (fob F p w k) (.tup [dn p, dn w, dn k]) (.lst (l.map dns)) p w k left (some (.d (.lst (named.map cqD)))) x9 (some (.d (.str (rpN (.lst (named.map cqD)))))) (some (.d (bk B (plcF p w) (cpsF p w (srtC named))))) (some (.d (csD (cpsF p w (srtC named))))) (some (.d (psD (plcF p w))))) (s1 := eC k2 (fob F p w k) (.tup [dn p, dn w, dn k]) (.lst (l.map dns)) p w k left (some (.d (.lst (named.map cqD)))) x9 (some (.d (.str (rpN (.lst (named.map cqD)))))) (some (.d (bk B (plcF p w) (cpsF p w (srtC named))))) (some (.d (csD (cpsF p w (srtC named))))) (some (.d (psD (plcF p w))))) rfl rfl mk tb eq)
  have v2 := e_eqV (e_eqO (C := B) (fn := c_Book___eq__ B) (ma := mVar 11) (mb := rvW B F) (o1 := .d (bk B (plcF p w) (cpsF p w (srtC named)))) (s := eC k2 (fob F p w k) (.tup [dn p, dn w, dn k]) (.lst (l.map dns)) p w k left (some (.d (.lst (named.map cqD)))) x9 (some (.d (.str (rpN (.lst (named.map cqD)))))) (some (.d (bk B (plcF p w) (cpsF p w (srtC named))))) (some (.d (csD (cpsF p w (srtC named))))) (some (.d (psD (plcF p w))))) (s1 := eC k2 (fob F p w k) (.tup [dn p, dn w, dn k]) (.lst (l.map dns)) p w k left (some (.d (.lst (named.map cqD)))) x9 (some (.d (.str (rpN (.lst (named.map cqD)))))) (some (.d (bk B (plcF p w) (cpsF p w (srtC named))))) (some (.d (csD (cpsF p w (srtC named))))) (some (.d (psD (plcF p w))))) rfl rfl rv ho2 eq)
  have v3 := x_v2 (F := bO (w2b fEq)) kp2 (b := mVar 10) (o2 := .d (.str (rpN (.lst (named.map cqD))))) rfl (t_eqV _)
  refine ⟨k2, _, ?_, q1, by omega⟩
  rw [c_l_book_right, m_book_eq]
  exact x_call (s1 := eC k2 (fob F p w k) (.tup [dn p, dn w, dn k]) (.lst (l.map dns)) p w k left (some (.d (.lst (named.map cqD)))) x9 (some (.d (.str (rpN (.lst (named.map cqD)))))) (some (.d (bk B (plcF p w) (cpsF p w (srtC named))))) (some (.d (csD (cpsF p w (srtC named))))) (some (.d (psD (plcF p w))))) rfl (x_seq (s1 := [some dk, some (.d (fob F p w k)), some (.d (.tup [dn p, dn w, dn k])), some (.d (.lst (l.map dns))), some (.d (dn p)), some (.d (dn w)), some (.d (dn k)), none, none, none, none, none, none, none, none, none]) rfl (x_seq (s1 := eB dk (fob F p w k) (.tup [dn p, dn w, dn k]) (.lst (l.map dns)) p w k nm5 [] none none none none none) rfl (x_seq lp (x_seq s4 (x_seq s5 (x_seq s6 (x_seq (x_sifF s7 rfl) (x_ret (andT v1 (andT v2 v3)))))))))) rfl
end
end K39
set_option Elab.async false
set_option linter.all false
set_option maxRecDepth 100000
set_option maxHeartbeats 4000000
namespace K39
open PySem PySem.Spec PyProof.Rows L2 BM
local macro_rules
  | `(tactic| simp_arith [$xs,*]) => `(tactic| simp -implicitDefEqProofs only [↓e_gen, ↓ob_some, ↓oo_some, ↓vr_some, ↓sl_some, ↓al_some, ↓fk_nx, ↓fk_bk, ↓fk_ct, ↓fk_rt, ↓lk_nx, ↓lk_bk, ↓lk_ct, ↓lk_rt, ↓rk_nx, ↓rk_rt, ↓ifk_t, ↓ifk_f, ↓rg1_int, ↓e_pure, ↓e_bind, ↓e_var, ↓e_fz, ↓e_mv, ↓e_C, ↓e_val, ↓e_pl, ↓e_mods0, ↓e_mods, ↓e_get0, ↓e_get, ↓e_getV, ↓e_getP, ↓e_flatD, ↓e_flatL, ↓leafs_leaf, ↓e_leafs0, ↓e_leafsD, ↓e_ops, ↓e_op, ↓e_tst, ↓e_bO, ↓e_w1, ↓e_w2, ↓e_w1b, ↓e_w2b, ↓e_truth1, ↓e_truthB, ↓e_truthI, ↓e_truthN, ↓e_truthL, ↓e_truthT, ↓e_args0, ↓e_args, ↓e_tup, ↓e_lst, ↓e_if, ↓e_sif, ↓e_or, ↓e_and, ↓e_not, ↓e_mnot, ↓e_yes, ↓e_mor, ↓e_mand, ↓e_mset, ↓e_set, ↓e_setO, ↓e_expr, ↓e_ret, ↓e_retN, ↓e_pass, ↓e_break, ↓e_cont, ↓e_seq, ↓e_gNm, ↓e_gTs0, ↓e_gTs, ↓e_gTp, ↓e_gTpST, ↓e_gTpSL, ↓e_tgt, ↓e_sfor, ↓e_for0, ↓e_for, ↓e_wipe0, ↓e_wipe, ↓e_iS, ↓e_listT, ↓e_listL, ↓e_iR1, ↓e_rev, ↓e_aval, ↓e_aplc, ↓e_mars0, ↓e_mars, ↓e_take0, ↓e_takeV, ↓e_takeP, ↓e_give0, ↓e_giveV, ↓e_giveP, ↓e_call, ↓e_callM, ↓e_in0, ↓e_inT, ↓e_inF, ↓e_outs0, ↓e_outsT, ↓e_outsF, ↓e_permF, ↓e_permL0, ↓e_permL, ↓pcons_some, ↓e_app, ↓e_msetB0, ↓e_msetB1, ↓e_par, ↓e_par3, ↓e_fld, ↓e_obj, ↓e_make, ↓mkK_ok, ↓e_enA, ↓e_rv, ↓e_dctS, ↓e_lrg, ↓e_isi, ↓e_upper, ↓e_revX, ↓revX_t, ↓e_iSX, ↓e_dct0, ↓e_chn, ↓chK_eq, ↓e_zipS, ↓e_zipL, ↓e_zipV, ↓e_fr, ↓e_zipT, ↓e_lower, ↓e_seqL, ↓e_seqT, ↓e_seqS, ↓e_fListXL, ↓e_fListXT, ↓e_join2, ↓joinK_str, ↓e_join, e_fEqZT, e_fEqZL, e_fNeZT, e_fNeZL, e_toD, e_toL, toDs_leaf, e_toDs0, e_toDs, e_fAddI, e_fSubI,  e_fLtI, e_fLeI, e_fGtI, e_fGeI, e_fEqI, e_fEqS, e_fEqB, ↓e_fNe, ↓e_fNotIn, ↓e_fIsN, e_fLenL, e_fLenT, e_fListL, e_fListT, e_fTupL, e_fTupT, e_fMin, e_fMax, e_fNegI,
      List.getElem?_cons_succ, List.getElem?_cons_zero, List.set_cons_succ, List.set_cons_zero, List.length_cons, List.length_nil, List.replicate_succ, List.replicate_zero, List.cons_append, List.nil_append, Nat.reduceAdd, Nat.reduceLT, Nat.reduceEqDiff, if_true, if_false, and_self, ite_true, ite_false, Bool.false_eq_true, Bool.not_true, Bool.not_false, Bool.or_true, Bool.true_or, decide_true, decide_false, eq_self, $xs,*])
abbrev mkF1 (F : Addr) : M O := mMake F (c_Formula___init__ F) [aval (mOp (w2 fIx) [mval (mVar 3), mval (mC (.int 0))]), aval (mOp (w2 fIx) [mval (mVar 3), mval (mC (.int 1))]), aval (mOp (w2 fIx) [mval (mVar 3), mval (mC (.int 2))])]
abbrev mkF2 (F : Addr) : M O := mMake F (permF [0, 2, 3, 1] [0, 3, 1, 2] (c_Formula___init__ F)) [aval (mOp (w2 fIx) [mval (mVar 3), mval (mC (.int 2))]), aval (mOp (w2 fIx) [mval (mVar 3), mval (mC (.int 0))]), aval (mOp (w2 fIx) [mval (mVar 3), mval (mC (.int 1))])]
abbrev body6 (B F : Addr) : M Fl := (sSeq (sIf (tOr (tNot (mTst truth1 [mval (mCall (c_l_rows_right F) [aval (mVar 6), aval (mVar 3), aval (mVar 5)])])) (tNot (mTst truth1 [mval (mCall (c_l_book_right B F) [aplc' 1, aval (mVar 6), aval (mVar 3), aval (mVar 5)])]))) (sRet (mC (.bl false))) (sPass))
  (sIf (mTst (w2b fNe) [mval (mOp (w1 fReprN) [mval (mTup [mFld F ("prime" : Str) (mVar 6), mFld F ("places" : Str) (mVar 6), mFld F ("size" : Str) (mVar 6)])]), mval (mOp (w1 fReprN) [mval (mVar 3)])]) (sRet (mC (.bl false))) (sPass)))
abbrev turnL (B F : Addr) : M Fl := (sSeq (sSet 3 (mCall c_l_shape [aplc' 1, aval (mVar 2)]))
  (sSeq (sSet 4 (mLst [mkF1 F, mkF2 F]))
  (sSeq (sSet 5 (mCall c_l_lists [aplc' 1, aval (mOp (w2 fIx) [mval (mVar 3), mval (mC (.int 0))]), aval (mOp (w2 fIx) [mval (mVar 3), mval (mC (.int 2))])]))
  (sFor (iSX (mVar 4)) (gNm 6) (body6 B F)))))
theorem m_law_eq (B F : Addr) : m_law B F = sSeq (sSetO 1 (mCall c_l_deck [aval (mVar 0)]))
  (sSeq (sFor (iR1 (mC (.int 6))) (gNm 2) (turnL B F))
  (sRet (mC (.bl true)))) := rfl
abbrev EL (sc dk : O) (x2 x3 x4 x5 x6 : Option O) : BM.Env := [some sc, some dk, x2, x3, x4, x5, x6]
section
variable {B F : Addr} {p w k : Nat} {l : List (List Nat)} {sc : O}
theorem tb_fob : O.toD (.obj F [("prime" : Str), ("places" : Str), ("size" : Str)] [.d (dn p), .d (dn w), .d (dn k)]) = fob F p w k := by rw [O.toD, O.toDs, O.toDs, O.toDs, O.toDs, O.toD, O.toD, O.toD]
theorem mk1_ok (dk : O) (x2 x4 x5 x6 : Option O) : mkF1 F (EL sc dk x2 (some (.d (.tup [dn p, dn w, dn k]))) x4 x5 x6) = some (.obj F [("prime" : Str), ("places" : Str), ("size" : Str)] [.d (dn p), .d (dn w), .d (dn k)], EL sc dk x2 (some (.d (.tup [dn p, dn w, dn k]))) x4 x5 x6) := by
  have ri := r_init F p w k
  have i0 : fIx (.tup [dn p, dn w, dn k]) (.int 0) = some (.d (dn p)) := rfl
  have i1 : fIx (.tup [dn p, dn w, dn k]) (.int 1) = some (.d (dn w)) := rfl
  have i2 : fIx (.tup [dn p, dn w, dn k]) (.int 2) = some (.d (dn k)) := rfl
  generalize D.tup [dn p, dn w, dn k] = SS at *
  generalize O.obj F [("prime" : Str), ("places" : Str), ("size" : Str)] [.d (dn p), .d (dn w), .d (dn k)] = OO at *
  simp_arith [EL, i0, i1, i2, ri]
theorem mk2_ok (dk : O) (x2 x4 x5 x6 : Option O) : mkF2 F (EL sc dk x2 (some (.d (.tup [dn p, dn w, dn k]))) x4 x5 x6) = some (.obj F [("prime" : Str), ("places" : Str), ("size" : Str)] [.d (dn p), .d (dn w), .d (dn k)], EL sc dk x2 (some (.d (.tup [dn p, dn w, dn k]))) x4 x5 x6) := by
  have ri := r_init F p w k
  have i0 : fIx (.tup [dn p, dn w, dn k]) (.int 0) = some (.d (dn p)) := rfl
  have i1 : fIx (.tup [dn p, dn w, dn k]) (.int 1) = some (.d (dn w)) := rfl
  have i2 : fIx (.tup [dn p, dn w, dn k]) (.int 2) = some (.d (dn k)) := rfl
  have p2 : ∀ OO : O, permL [0, 3, 1, 2] [OO, .d (dn p), .d (dn w), .d (dn k)] = [OO, .d (dn k), .d (dn p), .d (dn w)] := fun _ => rfl
  generalize D.tup [dn p, dn w, dn k] = SS at *
  generalize O.obj F [("prime" : Str), ("places" : Str), ("size" : Str)] [.d (dn p), .d (dn w), .d (dn k)] = OO at *
  simp_arith [EL, i0, i1, i2, ri, p2]
theorem six_ok {n : Nat} {dk : O} (hD : Deck n dk) (hn : n + 100 < 2 ^ 39) (hp : p ∈ prms) (hw : w ≤ p) (hk2 : k ≤ 4) (hL : Lst p k l) (hl : l.length = 10) (x2 x4 : Option O) :
    ∃ (dk' : O) (n' : Nat), body6 B F (EL sc dk x2 (some (.d (.tup [dn p, dn w, dn k]))) x4 (some (.d (.lst (l.map dns)))) (some (.d (fob F p w k)))) = some (.nx, EL sc dk' x2 (some (.d (.tup [dn p, dn w, dn k]))) x4 (some (.d (.lst (l.map dns)))) (some (.d (fob F p w k)))) ∧ Deck n' dk' ∧ n' ≤ n + 20 := by
  have hp2 := prm_le p hp
  have rr := r_rows (C := F) (k := k) hp hw hL hl
  obtain ⟨k1, n1, br, d1, d2⟩ := r_book (B := B) (F := F) hD hn hp hw hk2 hL hl
  have sh : Shw (.tup [dn p, dn w, dn k]) 363 1 := shw_dns (l := [p, w, k]) (fun x hx => by
    simp only [List.mem_cons, List.not_mem_nil, or_false] at hx
    omega) (by simp)
  have rp := sh.rep (by omega) (by omega)
  have e0 : fEq (.str (rpN (.tup [dn p, dn w, dn k]))) (.str (rpN (.tup [dn p, dn w, dn k]))) = some true := by rw [e_fEqS, decide_eq_true rfl]
  have fp : ∀ s : BM.Env, fldK F ("prime" : Str) (.d (fob F p w k)) s = some (.d (dn p), s) := fun s => q_prime
  have fw : ∀ s : BM.Env, fldK F ("places" : Str) (.d (fob F p w k)) s = some (.d (dn w), s) := fun s => q_places
  have fs : ∀ s : BM.Env, fldK F ("size" : Str) (.d (fob F p w k)) s = some (.d (dn k), s) := fun s => q_size
  refine ⟨k1, n1, ?_, d1, d2⟩
  generalize rpN (.tup [dn p, dn w, dn k]) = RR at *
  generalize fob F p w k = FB at *
  generalize D.lst (l.map dns) = SM at *
  simp_arith [EL, rr, br, fp, fw, fs, rp, e0]
theorem st_turn {n : Nat} {dk : O} (B F : Addr) (hD : Deck n dk) (hn : n + 3000 < 2 ^ 39) {j : Nat} (hj : j < 6) (x3 x4 x5 x6 : Option O) :
    ∃ (n' : Nat) (dk' : O) (y3 y4 y5 y6 : Option O), turnL B F (EL sc dk (some (.d (dn j))) x3 x4 x5 x6) = some (.nx, EL sc dk' (some (.d (dn j))) y3 y4 y5 y6) ∧ Deck n' dk' ∧ n' ≤ n + 500 := by
  obtain ⟨p, w, k, d1, e1, f1, hp, hw1, hw, hk, hk2, hk3⟩ := r_shape hD (by omega) hj
  have hp2 := prm_le p hp
  obtain ⟨l, d2, n2, e2, f2, g2, hL, hl⟩ := r_lists (p := p) (k := k) f1 (by omega) hp2.1 hp2.2 hk hk2
  have m1 := mk1_ok (F := F) (sc := sc) (p := p) (w := w) (k := k) d1 (some (.d (dn j))) x4 x5 x6
  have m2 := mk2_ok (F := F) (sc := sc) (p := p) (w := w) (k := k) d1 (some (.d (dn j))) x4 x5 x6
  have i0 : fIx (.tup [dn p, dn w, dn k]) (.int 0) = some (.d (dn p)) := rfl
  have i2 : fIx (.tup [dn p, dn w, dn k]) (.int 2) = some (.d (dn k)) := rfl
  have s1 : sSet 3 (mCall c_l_shape [aplc' 1, aval (mVar 2)]) (EL sc dk (some (.d (dn j))) x3 x4 x5 x6) = some (.nx, EL sc d1 (some (.d (dn j))) (some (.d (.tup [dn p, dn w, dn k]))) x4 x5 x6) := by
    generalize D.tup [dn p, dn w, dn k] = SS at *
    simp_arith [EL, e1]
  have s2 : sSet 4 (mLst [mkF1 F, mkF2 F]) (EL sc d1 (some (.d (dn j))) (some (.d (.tup [dn p, dn w, dn k]))) x4 x5 x6) = some (.nx, EL sc d1 (some (.d (dn j))) (some (.d (.tup [dn p, dn w, dn k]))) (some (.d (.lst [fob F p w k, fob F p w k]))) x5 x6) :=
    x_set (x_lst (x_args m1 (x_args m2 x_args0))) rfl (by
      rw [O.toD, O.toDs, O.toDs, O.toDs, tb_fob]; rfl)
  have s3 : sSet 5 (mCall c_l_lists [aplc' 1, aval (mOp (w2 fIx) [mval (mVar 3), mval (mC (.int 0))]), aval (mOp (w2 fIx) [mval (mVar 3), mval (mC (.int 2))])]) (EL sc d1 (some (.d (dn j))) (some (.d (.tup [dn p, dn w, dn k]))) (some (.d (.lst [fob F p w k, fob F p w k]))) x5 x6) = some (.nx, EL sc d2 (some (.d (dn j))) (some (.d (.tup [dn p, dn w, dn k]))) (some (.d (.lst [fob F p w k, fob F p w k]))) (some (.d (.lst (l.map dns)))) x6) := by
    generalize D.tup [dn p, dn w, dn k] = SS at *
    generalize D.lst [fob F p w k, fob F p w k] = RL at *
    generalize l.map dns = LL at *
    simp_arith [EL, i0, i2, e2]
  obtain ⟨d3, n3, a1, a2, a3⟩ := six_ok (B := B) (F := F) (sc := sc) f2 (by omega) hp hw hk2 hL hl (some (.d (dn j))) (some (.d (.lst [fob F p w k, fob F p w k])))
  obtain ⟨d4, n4, b1, b2, b3⟩ := six_ok (B := B) (F := F) (sc := sc) a2 (by omega) hp hw hk2 hL hl (some (.d (dn j))) (some (.d (.lst [fob F p w k, fob F p w k])))
  have lp : sFor (iSX (mVar 4)) (gNm 6) (body6 B F) (EL sc d2 (some (.d (dn j))) (some (.d (.tup [dn p, dn w, dn k]))) (some (.d (.lst [fob F p w k, fob F p w k]))) (some (.d (.lst (l.map dns)))) x6) = some (.nx, EL sc d4 (some (.d (dn j))) (some (.d (.tup [dn p, dn w, dn k]))) (some (.d (.lst [fob F p w k, fob F p w k]))) (some (.d (.lst (l.map dns)))) (some (.d (fob F p w k)))) := by
    rw [e_sfor]
    show ob (some ([fob F p w k, fob F p w k], EL sc d2 (some (.d (dn j))) (some (.d (.tup [dn p, dn w, dn k]))) (some (.d (.lst [fob F p w k, fob F p w k]))) (some (.d (.lst (l.map dns)))) x6)) _ = _
    rw [ob_some, e_for]
    show ob (some ((), EL sc d2 (some (.d (dn j))) (some (.d (.tup [dn p, dn w, dn k]))) (some (.d (.lst [fob F p w k, fob F p w k]))) (some (.d (.lst (l.map dns)))) (some (.d (fob F p w k))))) _ = _
    rw [ob_some, a1, ob_some]
    show forL (gNm 6) (body6 B F) [fob F p w k] _ = _
    rw [e_for]
    show ob (some ((), EL sc d3 (some (.d (dn j))) (some (.d (.tup [dn p, dn w, dn k]))) (some (.d (.lst [fob F p w k, fob F p w k]))) (some (.d (.lst (l.map dns)))) (some (.d (fob F p w k))))) _ = _
    rw [ob_some, b1, ob_some]
    rfl
  exact ⟨n4, d4, _, _, _, _, x_seq s1 (x_seq s2 (x_seq s3 lp)), b2, by omega⟩
end
theorem r_law (B F : Addr) {ns : List Int} (h : ns.length ≤ 63) : ∃ outs, c_law B F [.d (.lst (ns.map D.int))] = some (.d (.bl true), outs) := by
  obtain ⟨deck, e1, d0⟩ := r_deck h
  obtain ⟨s', l1, n', dk, x2, x3, x4, x5, x6, rfl, q1, q2⟩ := x_forS (emb := dn) (g := gNm 2) (body := turnL B F) (P := fun j s => ∃ (n' : Nat) (dk : O) (x2 x3 x4 x5 x6 : Option O), s = EL (.d (.lst (ns.map D.int))) dk x2 x3 x4 x5 x6 ∧ Deck n' dk ∧ n' ≤ 500 * j)
    (s0 := EL (.d (.lst (ns.map D.int))) deck none none none none none) (List.range 6) ⟨0, deck, none, none, none, none, none, rfl, d0, by omega⟩ fun j x s hx ⟨n', dk, x2, x3, x4, x5, x6, es, q1, q2⟩ => by
      subst es
      have hj : j < 6 := by have := (List.getElem?_eq_some_iff.mp hx).1; rw [List.length_range] at this; exact this
      have hx2 := List.mem_range.mp (List.mem_of_getElem? hx)
      obtain ⟨n2, dk2, y3, y4, y5, y6, t1, t2, t3⟩ := st_turn (sc := .d (.lst (ns.map D.int))) B F q1 (by omega) hx2 x3 x4 x5 x6
      exact ⟨_, _, rfl, t1, n2, dk2, _, y3, y4, y5, y6, rfl, t2, by omega⟩
  have r6 : upto 0 (Int.toNat 6) = (List.range 6).map dn := upto_nat 6
  have g6 : -(2 : Int) ^ 62 ≤ 6 ∧ (6 : Int) < 2 ^ 62 := by omega
  refine ⟨[.d (.lst (ns.map D.int))], ?_⟩
  rw [c_law, m_law_eq]
  generalize turnL B F = tw at l1 ⊢
  simp_arith [e1, e_ifp g6, r6, l1]
end K39
set_option Elab.async false
set_option linter.all false
set_option maxRecDepth 100000
namespace K39
open PySem PySem.Spec PyProof.Rows L2 BM
def spLaw (K : PySem.W.Frag) : Sp := fun vs H Q _ => ∃ (a : Addr) (ns : List Int), vs = [.ref a] ∧ SqL K H a (ns.map V.int) ∧ ns.length ≤ 63 ∧ ∀ H', Q (.bl true) H'
theorem sp_law (C_Book : Addr) (C_Formula : Addr) {K : PySem.W.Frag} : ∀ vs H Q E, spLaw K vs H Q E → spOf K 1 (c_law C_Book C_Formula) vs H Q E := by
  rintro vs H Q E ⟨a, ns, rfl, hS, hl, q⟩
  obtain ⟨outs, e⟩ := r_law C_Book C_Formula hl
  refine ⟨[], [.d (.lst (ns.map D.int))], .d (.bl true), outs, e, rfl, rfl, callM_len e, St.script hS, fun v H2 h => ?_⟩
  have ev := h.blv
  subst ev
  exact q H2
set_option maxHeartbeats 40000000 in
theorem all_mk {l : PySem.W.OpenLaw} {w : World} {K : PySem.W.Frag} {h : Heap} {mg : Str → Option Value} {fa f1 f2 f3 f4 f5 f6 f7 f8 f9 f10 f11 f12 f13 f14 f15 f16 f17 f18 f19 f20 f21 f22 f23 f24 f25 f26 f27 C_Book C_Formula : Addr} (X : K.In h) (G : h.Ns mainGlobals mg) (hfa : mg "law" = some (.ref fa))
    {od1 an1 od2 an2 od3 an3 od4 an4 od5 an5 od6 an6 od7 an7 od8 an8 od9 an9 od10 an10 od11 an11 od12 an12 od13 an13 od14 an14 od15 an15 od16 an16 od17 an17 od18 an18 od19 an19 od20 an20 od21 an21 od22 an22 od23 an23 od24 an24 od25 an25 od26 an26 od27 an27 : Option Addr} {sl1 sl2 sl3 sl4 sl5 sl6 sl7 sl8 sl9 sl10 sl11 sl12 sl13 sl14 sl15 sl16 sl17 sl18 sl19 sl20 sl21 sl22 sl23 sl24 sl25 sl26 sl27 : Array (Option Value)} {oc1 kV1 dc1 pm1 cd1 ct1 oc2 kV2 dc2 pm2 cd2 ct2 oc3 kV3 dc3 pm3 cd3 ct3 oc4 kV4 dc4 pm4 cd4 ct4 oc5 kV5 dc5 pm5 cd5 ct5 oc6 kV6 dc6 pm6 cd6 ct6 oc7 kV7 dc7 pm7 cd7 ct7 oc8 kV8 dc8 pm8 cd8 ct8 oc9 kV9 dc9 pm9 cd9 ct9 oc10 kV10 dc10 pm10 cd10 ct10 oc11 kV11 dc11 pm11 cd11 ct11 oc12 kV12 dc12 pm12 cd12 ct12 oc13 kV13 dc13 pm13 cd13 ct13 oc14 kV14 dc14 pm14 cd14 ct14 oc15 kV15 dc15 pm15 cd15 ct15 oc16 kV16 dc16 pm16 cd16 ct16 oc17 kV17 dc17 pm17 cd17 ct17 oc18 kV18 dc18 pm18 cd18 ct18 oc19 kV19 dc19 pm19 cd19 ct19 oc20 kV20 dc20 pm20 cd20 ct20 oc21 kV21 dc21 pm21 cd21 ct21 oc22 kV22 dc22 pm22 cd22 ct22 oc23 kV23 dc23 pm23 cd23 ct23 oc24 kV24 dc24 pm24 cd24 ct24 oc25 kV25 dc25 pm25 cd25 ct25 oc26 kV26 dc26 pm26 cd26 ct26 oc27 kV27 dc27 pm27 cd27 ct27 : Value} {u1 u2 u3 u4 u5 : Value}
    (qBook : PySem.W.nsIn K mainGlobals "Book" = some (some (.ref C_Book))) (pgBook : PySem.W.plainGet K C_Book Str.empty = true) (hdBook : PySem.W.hasDictIn K C_Book = true) (poBook : PySem.W.plainOver K C_Book = true) (saBook : PySem.W.findIn K (.ref C_Book) "__setattr__" = some (some (.builtin "object.__setattr__"))) (kcBook : PySem.W.keepIn K (.ref C_Book) = true) (haBook : PySem.W.findIn K (.ref C_Book) "__class__" = some (some (.builtin "object.__class__"))) (hnBook : PySem.W.specialIn K (.builtin "object.__class__") "__get__" = some (some (.builtin "getset_descriptor.__get__"))) (htBook : PySem.W.takesIn K (.builtin "object.__class__") = some true) (hmBook : PySem.W.mroIn K C_Book (.type "object") = some true) (meBook : PySem.W.kitOne K (.ref C_Book) (.ref C_Book) = some true) (mkBook : PySem.W.makesIn K C_Book = true)
    (qFormula : PySem.W.nsIn K mainGlobals "Formula" = some (some (.ref C_Formula))) (pgFormula : PySem.W.plainGet K C_Formula Str.empty = true) (hdFormula : PySem.W.hasDictIn K C_Formula = true) (poFormula : PySem.W.plainOver K C_Formula = true) (saFormula : PySem.W.findIn K (.ref C_Formula) "__setattr__" = some (some (.builtin "object.__setattr__"))) (kcFormula : PySem.W.keepIn K (.ref C_Formula) = true) (mkFormula : PySem.W.makesIn K C_Formula = true) (nABook_copies : PySem.W.findIn K (.ref C_Book) "copies" = some none) (nABook_places : PySem.W.findIn K (.ref C_Book) "places" = some none) (nAFormula_places : PySem.W.findIn K (.ref C_Formula) "places" = some none) (nAFormula_prime : PySem.W.findIn K (.ref C_Formula) "prime" = some none) (nAFormula_size : PySem.W.findIn K (.ref C_Formula) "size" = some none)
    (a1 : PySem.W.nsIn K mainGlobals "is_word" = some (some (.ref f1))) (l1 : K.lookup f1 = some ⟨oc1, od1, .func (PySem.W.fnOf "is_word" "is_word" (defArgs s_is_word) (defBody s_is_word) (defScope s_is_word) .none kV1 dc1 pm1 an1 cd1 ct1), sl1⟩) (c1 : PySem.W.codeIn K cd1 "is_word" = true) (k1 : PySem.W.keepIn K (.ref f1) = true)
    (a2 : PySem.W.nsIn K mainGlobals "are_rising" = some (some (.ref f2))) (l2 : K.lookup f2 = some ⟨oc2, od2, .func (PySem.W.fnOf "are_rising" "are_rising" (defArgs s_are_rising) (defBody s_are_rising) (defScope s_are_rising) .none kV2 dc2 pm2 an2 cd2 ct2), sl2⟩) (c2 : PySem.W.codeIn K cd2 "are_rising" = true) (k2 : PySem.W.keepIn K (.ref f2) = true)
    (a3 : PySem.W.nsIn K mainGlobals "fits_places" = some (some (.ref f3))) (l3 : K.lookup f3 = some ⟨oc3, od3, .func (PySem.W.fnOf "fits_places" "fits_places" (defArgs s_fits_places) (defBody s_fits_places) (defScope s_fits_places) .none kV3 dc3 pm3 an3 cd3 ct3), sl3⟩) (c3 : PySem.W.codeIn K cd3 "fits_places" = true) (k3 : PySem.W.keepIn K (.ref f3) = true)
    (a4 : PySem.W.findIn K (.ref C_Book) "__eq__" = some (some (.ref f4))) (i4 : PySem.W.isFn K (.ref f4) = true) (l4 : K.lookup f4 = some ⟨oc4, od4, .func (PySem.W.fnOf "__eq__" "Book.__eq__" (defArgs s_Book___eq__) (defBody s_Book___eq__) (defScope s_Book___eq__) .none kV4 dc4 pm4 an4 cd4 ct4), sl4⟩) (c4 : PySem.W.codeIn K cd4 "Book.__eq__" = true) (k4 : PySem.W.keepIn K (.ref f4) = true)
    (a5 : PySem.W.findIn K (.ref C_Formula) "__init__" = some (some (.ref f5))) (i5 : PySem.W.isFn K (.ref f5) = true) (l5 : K.lookup f5 = some ⟨oc5, od5, .func (PySem.W.fnOf "__init__" "Formula.__init__" (defArgs s_Formula___init__) (defBody s_Formula___init__) (defScope s_Formula___init__) .none kV5 dc5 pm5 an5 cd5 ct5), sl5⟩) (c5 : PySem.W.codeIn K cd5 "Formula.__init__" = true) (k5 : PySem.W.keepIn K (.ref f5) = true)
    (a6 : PySem.W.findIn K (.ref C_Formula) "value_at" = some (some (.ref f6))) (i6 : PySem.W.isFn K (.ref f6) = true) (l6 : K.lookup f6 = some ⟨oc6, od6, .func (PySem.W.fnOf "value_at" "Formula.value_at" (defArgs s_Formula_value_at) (defBody s_Formula_value_at) (defScope s_Formula_value_at) .none kV6 dc6 pm6 an6 cd6 ct6), sl6⟩) (c6 : PySem.W.codeIn K cd6 "Formula.value_at" = true) (k6 : PySem.W.keepIn K (.ref f6) = true)
    (a7 : PySem.W.nsIn K mainGlobals "_law_deck" = some (some (.ref f7))) (l7 : K.lookup f7 = some ⟨oc7, od7, .func (PySem.W.fnOf "_law_deck" "_law_deck" (defArgs s_l_deck) (defBody s_l_deck) (defScope s_l_deck) .none kV7 dc7 pm7 an7 cd7 ct7), sl7⟩) (c7 : PySem.W.codeIn K cd7 "_law_deck" = true) (k7 : PySem.W.keepIn K (.ref f7) = true)
    (a8 : PySem.W.nsIn K mainGlobals "_law_draw" = some (some (.ref f8))) (l8 : K.lookup f8 = some ⟨oc8, od8, .func (PySem.W.fnOf "_law_draw" "_law_draw" (defArgs s_l_draw) (defBody s_l_draw) (defScope s_l_draw) .none kV8 dc8 pm8 an8 cd8 ct8), sl8⟩) (c8 : PySem.W.codeIn K cd8 "_law_draw" = true) (k8 : PySem.W.keepIn K (.ref f8) = true)
    (a9 : PySem.W.nsIn K mainGlobals "_law_row" = some (some (.ref f9))) (l9 : K.lookup f9 = some ⟨oc9, od9, .func (PySem.W.fnOf "_law_row" "_law_row" (defArgs s_l_row) (defBody s_l_row) (defScope s_l_row) .none kV9 dc9 pm9 an9 cd9 ct9), sl9⟩) (c9 : PySem.W.codeIn K cd9 "_law_row" = true) (k9 : PySem.W.keepIn K (.ref f9) = true)
    (a10 : PySem.W.nsIn K mainGlobals "is_name" = some (some (.ref f10))) (l10 : K.lookup f10 = some ⟨oc10, od10, .func (PySem.W.fnOf "is_name" "is_name" (defArgs s_is_name) (defBody s_is_name) (defScope s_is_name) .none kV10 dc10 pm10 an10 cd10 ct10), sl10⟩) (c10 : PySem.W.codeIn K cd10 "is_name" = true) (k10 : PySem.W.keepIn K (.ref f10) = true)
    (a11 : PySem.W.nsIn K mainGlobals "is_mark" = some (some (.ref f11))) (l11 : K.lookup f11 = some ⟨oc11, od11, .func (PySem.W.fnOf "is_mark" "is_mark" (defArgs s_is_mark) (defBody s_is_mark) (defScope s_is_mark) .none kV11 dc11 pm11 an11 cd11 ct11), sl11⟩) (c11 : PySem.W.codeIn K cd11 "is_mark" = true) (k11 : PySem.W.keepIn K (.ref f11) = true)
    (a12 : PySem.W.nsIn K mainGlobals "is_row" = some (some (.ref f12))) (l12 : K.lookup f12 = some ⟨oc12, od12, .func (PySem.W.fnOf "is_row" "is_row" (defArgs s_is_row) (defBody s_is_row) (defScope s_is_row) .none kV12 dc12 pm12 an12 cd12 ct12), sl12⟩) (c12 : PySem.W.codeIn K cd12 "is_row" = true) (k12 : PySem.W.keepIn K (.ref f12) = true)
    (a13 : PySem.W.findIn K (.ref C_Formula) "row" = some (some (.ref f13))) (i13 : PySem.W.isFn K (.ref f13) = true) (l13 : K.lookup f13 = some ⟨oc13, od13, .func (PySem.W.fnOf "row" "Formula.row" (defArgs s_Formula_row) (defBody s_Formula_row) (defScope s_Formula_row) .none kV13 dc13 pm13 an13 cd13 ct13), sl13⟩) (c13 : PySem.W.codeIn K cd13 "Formula.row" = true) (k13 : PySem.W.keepIn K (.ref f13) = true)
    (a14 : PySem.W.nsIn K mainGlobals "_law_pick" = some (some (.ref f14))) (l14 : K.lookup f14 = some ⟨oc14, od14, .func (PySem.W.fnOf "_law_pick" "_law_pick" (defArgs s_l_pick) (defBody s_l_pick) (defScope s_l_pick) .none kV14 dc14 pm14 an14 cd14 ct14), sl14⟩) (c14 : PySem.W.codeIn K cd14 "_law_pick" = true) (k14 : PySem.W.keepIn K (.ref f14) = true)
    (a15 : PySem.W.nsIn K mainGlobals "_law_numbers" = some (some (.ref f15))) (l15 : K.lookup f15 = some ⟨oc15, od15, .func (PySem.W.fnOf "_law_numbers" "_law_numbers" (defArgs s_l_numbers) (defBody s_l_numbers) (defScope s_l_numbers) .none kV15 dc15 pm15 an15 cd15 ct15), sl15⟩) (c15 : PySem.W.codeIn K cd15 "_law_numbers" = true) (k15 : PySem.W.keepIn K (.ref f15) = true)
    (a16 : PySem.W.nsIn K mainGlobals "is_place" = some (some (.ref f16))) (l16 : K.lookup f16 = some ⟨oc16, od16, .func (PySem.W.fnOf "is_place" "is_place" (defArgs s_is_place) (defBody s_is_place) (defScope s_is_place) .none kV16 dc16 pm16 an16 cd16 ct16), sl16⟩) (c16 : PySem.W.codeIn K cd16 "is_place" = true) (k16 : PySem.W.keepIn K (.ref f16) = true)
    (a17 : PySem.W.nsIn K mainGlobals "is_copy" = some (some (.ref f17))) (l17 : K.lookup f17 = some ⟨oc17, od17, .func (PySem.W.fnOf "is_copy" "is_copy" (defArgs s_is_copy) (defBody s_is_copy) (defScope s_is_copy) .none kV17 dc17 pm17 an17 cd17 ct17), sl17⟩) (c17 : PySem.W.codeIn K cd17 "is_copy" = true) (k17 : PySem.W.keepIn K (.ref f17) = true)
    (a18 : PySem.W.nsIn K mainGlobals "_law_shape" = some (some (.ref f18))) (l18 : K.lookup f18 = some ⟨oc18, od18, .func (PySem.W.fnOf "_law_shape" "_law_shape" (defArgs s_l_shape) (defBody s_l_shape) (defScope s_l_shape) .none kV18 dc18 pm18 an18 cd18 ct18), sl18⟩) (c18 : PySem.W.codeIn K cd18 "_law_shape" = true) (k18 : PySem.W.keepIn K (.ref f18) = true)
    (a19 : PySem.W.nsIn K mainGlobals "_law_lists" = some (some (.ref f19))) (l19 : K.lookup f19 = some ⟨oc19, od19, .func (PySem.W.fnOf "_law_lists" "_law_lists" (defArgs s_l_lists) (defBody s_l_lists) (defScope s_l_lists) .none kV19 dc19 pm19 an19 cd19 ct19), sl19⟩) (c19 : PySem.W.codeIn K cd19 "_law_lists" = true) (k19 : PySem.W.keepIn K (.ref f19) = true)
    (a20 : PySem.W.nsIn K mainGlobals "_law_rows_right" = some (some (.ref f20))) (l20 : K.lookup f20 = some ⟨oc20, od20, .func (PySem.W.fnOf "_law_rows_right" "_law_rows_right" (defArgs s_l_rows_right) (defBody s_l_rows_right) (defScope s_l_rows_right) .none kV20 dc20 pm20 an20 cd20 ct20), sl20⟩) (c20 : PySem.W.codeIn K cd20 "_law_rows_right" = true) (k20 : PySem.W.keepIn K (.ref f20) = true)
    (a21 : PySem.W.nsIn K mainGlobals "are_places" = some (some (.ref f21))) (l21 : K.lookup f21 = some ⟨oc21, od21, .func (PySem.W.fnOf "are_places" "are_places" (defArgs s_are_places) (defBody s_are_places) (defScope s_are_places) .none kV21 dc21 pm21 an21 cd21 ct21), sl21⟩) (c21 : PySem.W.codeIn K cd21 "are_places" = true) (k21 : PySem.W.keepIn K (.ref f21) = true)
    (a22 : PySem.W.nsIn K mainGlobals "are_copies" = some (some (.ref f22))) (l22 : K.lookup f22 = some ⟨oc22, od22, .func (PySem.W.fnOf "are_copies" "are_copies" (defArgs s_are_copies) (defBody s_are_copies) (defScope s_are_copies) .none kV22 dc22 pm22 an22 cd22 ct22), sl22⟩) (c22 : PySem.W.codeIn K cd22 "are_copies" = true) (k22 : PySem.W.keepIn K (.ref f22) = true)
    (a23 : PySem.W.findIn K (.ref C_Book) "__init__" = some (some (.ref f23))) (i23 : PySem.W.isFn K (.ref f23) = true) (l23 : K.lookup f23 = some ⟨oc23, od23, .func (PySem.W.fnOf "__init__" "Book.__init__" (defArgs s_Book___init__) (defBody s_Book___init__) (defScope s_Book___init__) .none kV23 dc23 pm23 an23 cd23 ct23), sl23⟩) (c23 : PySem.W.codeIn K cd23 "Book.__init__" = true) (k23 : PySem.W.keepIn K (.ref f23) = true)
    (a24 : PySem.W.findIn K (.ref C_Formula) "book_of" = some (some (.ref f24))) (i24 : PySem.W.isFn K (.ref f24) = true) (l24 : K.lookup f24 = some ⟨oc24, od24, .func (PySem.W.fnOf "book_of" "Formula.book_of" (defArgs s_Formula_book_of) (defBody s_Formula_book_of) (defScope s_Formula_book_of) .none kV24 dc24 pm24 an24 cd24 ct24), sl24⟩) (c24 : PySem.W.codeIn K cd24 "Formula.book_of" = true) (k24 : PySem.W.keepIn K (.ref f24) = true)
    (a25 : PySem.W.nsIn K mainGlobals "_law_made" = some (some (.ref f25))) (l25 : K.lookup f25 = some ⟨oc25, od25, .func (PySem.W.fnOf "_law_made" "_law_made" (defArgs s_l_made) (defBody s_l_made) (defScope s_l_made) .none kV25 dc25 pm25 an25 cd25 ct25), sl25⟩) (c25 : PySem.W.codeIn K cd25 "_law_made" = true) (k25 : PySem.W.keepIn K (.ref f25) = true)
    (a26 : PySem.W.nsIn K mainGlobals "_law_book_right" = some (some (.ref f26))) (l26 : K.lookup f26 = some ⟨oc26, od26, .func (PySem.W.fnOf "_law_book_right" "_law_book_right" (defArgs s_l_book_right) (defBody s_l_book_right) (defScope s_l_book_right) .none kV26 dc26 pm26 an26 cd26 ct26), sl26⟩) (c26 : PySem.W.codeIn K cd26 "_law_book_right" = true) (k26 : PySem.W.keepIn K (.ref f26) = true)
    (a27 : PySem.W.nsIn K mainGlobals "law" = some (some (.ref f27))) (l27 : K.lookup f27 = some ⟨oc27, od27, .func (PySem.W.fnOf "law" "law" (defArgs s_law) (defBody s_law) (defScope s_law) .none kV27 dc27 pm27 an27 cd27 ct27), sl27⟩) (c27 : PySem.W.codeIn K cd27 "law" = true) (k27 : PySem.W.keepIn K (.ref f27) = true)
    (z1 : PySem.W.nsIn K mainGlobals "all" = some none)
    (z2 : PySem.W.nsIn K mainGlobals "isinstance" = some none)
    (z3 : PySem.W.nsIn K mainGlobals "len" = some none)
    (z4 : PySem.W.nsIn K mainGlobals "list" = some none)
    (z5 : PySem.W.nsIn K mainGlobals "min" = some none)
    (z6 : PySem.W.nsIn K mainGlobals "range" = some none)
    (z7 : PySem.W.nsIn K mainGlobals "repr" = some none)
    (z8 : PySem.W.nsIn K mainGlobals "reversed" = some none)
    (z9 : PySem.W.nsIn K mainGlobals "sorted" = some none)
    (z10 : PySem.W.nsIn K mainGlobals "str" = some none)
    (z11 : PySem.W.nsIn K mainGlobals "tuple" = some none)
    (z12 : PySem.W.nsIn K mainGlobals "zip" = some none)
    (y1 : PySem.W.nsIn K mainGlobals "ALPHABET" = some (some u1)) (w1 : RelV (.str ("ABCDEFGHIJKLMNOPQRSTUVWXYZ" : Str)) u1)
    (y2 : PySem.W.nsIn K mainGlobals "COPY_PARTS" = some (some u2)) (w2 : RelV (.int 2) u2)
    (y3 : PySem.W.nsIn K mainGlobals "LOWER_CASE" = some (some u3)) (w3 : RelV (.str ("abcdefghijklmnopqrstuvwxyz" : Str)) u3)
    (y4 : PySem.W.nsIn K mainGlobals "MOST_LETTERS" = some (some u4)) (w4 : RelV (.int 8) u4)
    (y5 : PySem.W.nsIn K mainGlobals "UPPER_CASE" = some (some u5)) (w5 : RelV (.str ("ABCDEFGHIJKLMNOPQRSTUVWXYZ" : Str)) u5) :
    ∃ fd : FuncData, (∀ (s : Shared) (v : Value), BindsTo s fd ⟨[v], []⟩ [("_law_script", v)]) ∧ ∀ base : Heap, K.In base → base.Ns mainGlobals mg → FnG ⟨l.prog, w, K, mg, base⟩ 10 fa fd ["_law_script"] (spLaw K) := by
  have e := hfa.symm.trans (PySem.W.mg_of X G a27)
  cases e
  have F_is_word := fun_mk (st := s_is_word) l1 c1 k1
  have F_are_rising := fun_mk (st := s_are_rising) l2 c2 k2
  have F_fits_places := fun_mk (st := s_fits_places) l3 c3 k3
  have F_Book___eq__ := fun_mk (st := s_Book___eq__) l4 c4 k4
  have F_Formula___init__ := fun_mk (st := s_Formula___init__) l5 c5 k5
  have F_Formula_value_at := fun_mk (st := s_Formula_value_at) l6 c6 k6
  have F_l_deck := fun_mk (st := s_l_deck) l7 c7 k7
  have F_l_draw := fun_mk (st := s_l_draw) l8 c8 k8
  have F_l_row := fun_mk (st := s_l_row) l9 c9 k9
  have F_is_name := fun_mk (st := s_is_name) l10 c10 k10
  have F_is_mark := fun_mk (st := s_is_mark) l11 c11 k11
  have F_is_row := fun_mk (st := s_is_row) l12 c12 k12
  have F_Formula_row := fun_mk (st := s_Formula_row) l13 c13 k13
  have F_l_pick := fun_mk (st := s_l_pick) l14 c14 k14
  have F_l_numbers := fun_mk (st := s_l_numbers) l15 c15 k15
  have F_is_place := fun_mk (st := s_is_place) l16 c16 k16
  have F_is_copy := fun_mk (st := s_is_copy) l17 c17 k17
  have F_l_shape := fun_mk (st := s_l_shape) l18 c18 k18
  have F_l_lists := fun_mk (st := s_l_lists) l19 c19 k19
  have F_l_rows_right := fun_mk (st := s_l_rows_right) l20 c20 k20
  have F_are_places := fun_mk (st := s_are_places) l21 c21 k21
  have F_are_copies := fun_mk (st := s_are_copies) l22 c22 k22
  have F_Book___init__ := fun_mk (st := s_Book___init__) l23 c23 k23
  have F_Formula_book_of := fun_mk (st := s_Formula_book_of) l24 c24 k24
  have F_l_made := fun_mk (st := s_l_made) l25 c25 k25
  have F_l_book_right := fun_mk (st := s_l_book_right) l26 c26 k26
  have F_law := fun_mk (st := s_law) l27 c27 k27
  have K_Book : Cls K C_Book := ⟨pgBook, hdBook, poBook, saBook⟩
  have K_Formula : Cls K C_Formula := ⟨pgFormula, hdFormula, poFormula, saFormula⟩
  have N_Book_copies : NoAttr K C_Book "copies" := nABook_copies
  have N_Book_places : NoAttr K C_Book "places" := nABook_places
  have N_Formula_places : NoAttr K C_Formula "places" := nAFormula_places
  have N_Formula_prime : NoAttr K C_Formula "prime" := nAFormula_prime
  have N_Formula_size : NoAttr K C_Formula "size" := nAFormula_size
  refine ⟨PySem.W.fnOf "law" "law" (defArgs s_law) (defBody s_law) (defScope s_law) .none kV27 dc27 pm27 an27 cd27 ct27, fun s v => .of_eq rfl, fun base _ _ => ?_⟩
  have h_all : (Cfg.mk l.prog w K mg base).mg "all" = none := PySem.W.mg_none_of X G z1
  have h_isinstance : (Cfg.mk l.prog w K mg base).mg "isinstance" = none := PySem.W.mg_none_of X G z2
  have h_len : (Cfg.mk l.prog w K mg base).mg "len" = none := PySem.W.mg_none_of X G z3
  have h_list : (Cfg.mk l.prog w K mg base).mg "list" = none := PySem.W.mg_none_of X G z4
  have h_min : (Cfg.mk l.prog w K mg base).mg "min" = none := PySem.W.mg_none_of X G z5
  have h_range : (Cfg.mk l.prog w K mg base).mg "range" = none := PySem.W.mg_none_of X G z6
  have h_repr : (Cfg.mk l.prog w K mg base).mg "repr" = none := PySem.W.mg_none_of X G z7
  have h_reversed : (Cfg.mk l.prog w K mg base).mg "reversed" = none := PySem.W.mg_none_of X G z8
  have h_sorted : (Cfg.mk l.prog w K mg base).mg "sorted" = none := PySem.W.mg_none_of X G z9
  have h_str : (Cfg.mk l.prog w K mg base).mg "str" = none := PySem.W.mg_none_of X G z10
  have h_tuple : (Cfg.mk l.prog w K mg base).mg "tuple" = none := PySem.W.mg_none_of X G z11
  have h_zip : (Cfg.mk l.prog w K mg base).mg "zip" = none := PySem.W.mg_none_of X G z12
  have g_ALPHABET : (Cfg.mk l.prog w K mg base).mg "ALPHABET" = some u1 := PySem.W.mg_of X G y1
  have g_COPY_PARTS : (Cfg.mk l.prog w K mg base).mg "COPY_PARTS" = some u2 := PySem.W.mg_of X G y2
  have g_LOWER_CASE : (Cfg.mk l.prog w K mg base).mg "LOWER_CASE" = some u3 := PySem.W.mg_of X G y3
  have g_MOST_LETTERS : (Cfg.mk l.prog w K mg base).mg "MOST_LETTERS" = some u4 := PySem.W.mg_of X G y4
  have g_UPPER_CASE : (Cfg.mk l.prog w K mg base).mg "UPPER_CASE" = some u5 := PySem.W.mg_of X G y5
  have O_is_word := ok_is_word (cfg := ⟨l.prog, w, K, mg, base⟩) F_is_word g_MOST_LETTERS w4 h_all h_isinstance h_len h_str
  have D_is_word : FnD ⟨l.prog, w, K, mg, base⟩ 1 "is_word" f1 _ P_is_word 2 c_is_word := ⟨PySem.W.mg_of X G a1, F_is_word.kp, O_is_word, fun os r outs h hl => (callM_len h).trans hl⟩
  have O_are_rising := ok_are_rising (cfg := ⟨l.prog, w, K, mg, base⟩) F_are_rising h_all h_zip
  have D_are_rising : FnD ⟨l.prog, w, K, mg, base⟩ 1 "are_rising" f2 _ P_are_rising 1 c_are_rising := ⟨PySem.W.mg_of X G a2, F_are_rising.kp, O_are_rising, fun os r outs h hl => (callM_len h).trans hl⟩
  have O_fits_places := ok_fits_places (cfg := ⟨l.prog, w, K, mg, base⟩) F_fits_places h_all h_isinstance h_len h_str h_zip
  have D_fits_places : FnD ⟨l.prog, w, K, mg, base⟩ 1 "fits_places" f3 _ P_fits_places 2 c_fits_places := ⟨PySem.W.mg_of X G a3, F_fits_places.kp, O_fits_places, fun os r outs h hl => (callM_len h).trans hl⟩
  have O_Book___eq__ := ok_Book___eq__ (cfg := ⟨l.prog, w, K, mg, base⟩) F_Book___eq__ K_Book N_Book_copies N_Book_places (PySem.W.mg_of X G qBook) ⟨K_Book, haBook, hnBook, htBook, hmBook, meBook⟩ h_isinstance
  have M_Book___eq__ : FnM ⟨l.prog, w, K, mg, base⟩ 1 C_Book "__eq__" f4 _ P_Book___eq__ 2 (c_Book___eq__ C_Book) := ⟨K_Book, ⟨a4, i4, k4⟩, O_Book___eq__, fun os r outs h hl => (callM_len h).trans hl⟩
  have O_Formula___init__ := ok_Formula___init__ (cfg := ⟨l.prog, w, K, mg, base⟩) F_Formula___init__ K_Formula N_Formula_places N_Formula_prime N_Formula_size
  have CD_Formula : ClD ⟨l.prog, w, K, mg, base⟩ 1 "Formula" C_Formula f5 _ P_Formula___init__ 4 (c_Formula___init__ C_Formula) := ⟨PySem.W.mg_of X G qFormula, ⟨mkFormula, a5, i5, kcFormula⟩, O_Formula___init__, fun os r outs h hl => (callM_len h).trans hl⟩
  have O_Formula_value_at := ok_Formula_value_at (cfg := ⟨l.prog, w, K, mg, base⟩) F_Formula_value_at K_Formula N_Formula_prime h_reversed
  have M_Formula_value_at : FnM ⟨l.prog, w, K, mg, base⟩ 1 C_Formula "value_at" f6 _ P_Formula_value_at 3 (c_Formula_value_at C_Formula) := ⟨K_Formula, ⟨a6, i6, k6⟩, O_Formula_value_at, fun os r outs h hl => (callM_len h).trans hl⟩
  have O_l_deck := ok_l_deck (cfg := ⟨l.prog, w, K, mg, base⟩) F_l_deck h_list
  have D_l_deck : FnD ⟨l.prog, w, K, mg, base⟩ 1 "_law_deck" f7 _ P_l_deck 1 c_l_deck := ⟨PySem.W.mg_of X G a7, F_l_deck.kp, O_l_deck, fun os r outs h hl => (callM_len h).trans hl⟩
  have O_l_draw := ok_l_draw (cfg := ⟨l.prog, w, K, mg, base⟩) F_l_draw
  have D_l_draw : FnD ⟨l.prog, w, K, mg, base⟩ 1 "_law_draw" f8 _ P_l_draw 2 c_l_draw := ⟨PySem.W.mg_of X G a8, F_l_draw.kp, O_l_draw, fun os r outs h hl => (callM_len h).trans hl⟩
  have O_l_row := ok_l_row (cfg := ⟨l.prog, w, K, mg, base⟩) F_l_row h_range
  have D_l_row : FnD ⟨l.prog, w, K, mg, base⟩ 1 "_law_row" f9 _ P_l_row 3 c_l_row := ⟨PySem.W.mg_of X G a9, F_l_row.kp, O_l_row, fun os r outs h hl => (callM_len h).trans hl⟩
  have O_is_name := ok_is_name (cfg := ⟨l.prog, w, K, mg, base⟩) F_is_name g_LOWER_CASE w3 F_is_word D_is_word (b_is_word F_is_word)
  have D_is_name : FnD ⟨l.prog, w, K, mg, base⟩ 2 "is_name" f10 _ P_is_name 1 c_is_name := ⟨PySem.W.mg_of X G a10, F_is_name.kp, O_is_name, fun os r outs h hl => (callM_len h).trans hl⟩
  have O_is_mark := ok_is_mark (cfg := ⟨l.prog, w, K, mg, base⟩) F_is_mark g_UPPER_CASE w5 F_is_word D_is_word (b_is_word F_is_word)
  have D_is_mark : FnD ⟨l.prog, w, K, mg, base⟩ 2 "is_mark" f11 _ P_is_mark 1 c_is_mark := ⟨PySem.W.mg_of X G a11, F_is_mark.kp, O_is_mark, fun os r outs h hl => (callM_len h).trans hl⟩
  have O_is_row := ok_is_row (cfg := ⟨l.prog, w, K, mg, base⟩) F_is_row F_fits_places D_fits_places (b_fits_places F_fits_places) h_isinstance h_tuple
  have D_is_row : FnD ⟨l.prog, w, K, mg, base⟩ 2 "is_row" f12 _ P_is_row 2 c_is_row := ⟨PySem.W.mg_of X G a12, F_is_row.kp, O_is_row, fun os r outs h hl => (callM_len h).trans hl⟩
  have O_Formula_row := ok_Formula_row (cfg := ⟨l.prog, w, K, mg, base⟩) F_Formula_row K_Formula N_Formula_places g_ALPHABET w1 M_Formula_value_at (b_Formula_value_at F_Formula_value_at) h_range h_tuple
  have M_Formula_row : FnM ⟨l.prog, w, K, mg, base⟩ 2 C_Formula "row" f13 _ P_Formula_row 2 (c_Formula_row C_Formula) := ⟨K_Formula, ⟨a13, i13, k13⟩, O_Formula_row, fun os r outs h hl => (callM_len h).trans hl⟩
  have O_l_pick := ok_l_pick (cfg := ⟨l.prog, w, K, mg, base⟩) F_l_pick F_l_draw D_l_draw (b_l_draw F_l_draw) h_len
  have D_l_pick : FnD ⟨l.prog, w, K, mg, base⟩ 2 "_law_pick" f14 _ P_l_pick 2 c_l_pick := ⟨PySem.W.mg_of X G a14, F_l_pick.kp, O_l_pick, fun os r outs h hl => (callM_len h).trans hl⟩
  have O_l_numbers := ok_l_numbers (cfg := ⟨l.prog, w, K, mg, base⟩) F_l_numbers F_l_draw D_l_draw (b_l_draw F_l_draw) h_range h_tuple
  have D_l_numbers : FnD ⟨l.prog, w, K, mg, base⟩ 2 "_law_numbers" f15 _ P_l_numbers 3 c_l_numbers := ⟨PySem.W.mg_of X G a15, F_l_numbers.kp, O_l_numbers, fun os r outs h hl => (callM_len h).trans hl⟩
  have O_is_place := ok_is_place (cfg := ⟨l.prog, w, K, mg, base⟩) F_is_place h_all F_are_rising D_are_rising (b_are_rising F_are_rising) F_is_mark D_is_mark (b_is_mark F_is_mark) h_isinstance h_tuple
  have D_is_place : FnD ⟨l.prog, w, K, mg, base⟩ 3 "is_place" f16 _ P_is_place 1 c_is_place := ⟨PySem.W.mg_of X G a16, F_is_place.kp, O_is_place, fun os r outs h hl => (callM_len h).trans hl⟩
  have O_is_copy := ok_is_copy (cfg := ⟨l.prog, w, K, mg, base⟩) F_is_copy g_COPY_PARTS w2 F_is_name D_is_name (b_is_name F_is_name) F_is_row D_is_row (b_is_row F_is_row) h_isinstance h_len h_tuple
  have D_is_copy : FnD ⟨l.prog, w, K, mg, base⟩ 3 "is_copy" f17 _ P_is_copy 2 c_is_copy := ⟨PySem.W.mg_of X G a17, F_is_copy.kp, O_is_copy, fun os r outs h hl => (callM_len h).trans hl⟩
  have O_l_shape := ok_l_shape (cfg := ⟨l.prog, w, K, mg, base⟩) F_l_shape F_l_draw D_l_draw (b_l_draw F_l_draw) F_l_pick D_l_pick (b_l_pick F_l_pick) h_min
  have D_l_shape : FnD ⟨l.prog, w, K, mg, base⟩ 3 "_law_shape" f18 _ P_l_shape 2 c_l_shape := ⟨PySem.W.mg_of X G a18, F_l_shape.kp, O_l_shape, fun os r outs h hl => (callM_len h).trans hl⟩
  have O_l_lists := ok_l_lists (cfg := ⟨l.prog, w, K, mg, base⟩) F_l_lists F_l_draw D_l_draw (b_l_draw F_l_draw) F_l_numbers D_l_numbers (b_l_numbers F_l_numbers) h_range
  have D_l_lists : FnD ⟨l.prog, w, K, mg, base⟩ 3 "_law_lists" f19 _ P_l_lists 3 c_l_lists := ⟨PySem.W.mg_of X G a19, F_l_lists.kp, O_l_lists, fun os r outs h hl => (callM_len h).trans hl⟩
  have O_l_rows_right := ok_l_rows_right (cfg := ⟨l.prog, w, K, mg, base⟩) F_l_rows_right M_Formula_row (b_Formula_row F_Formula_row) F_Formula_row F_l_row D_l_row (b_l_row F_l_row) h_len h_range h_repr
  have D_l_rows_right : FnD ⟨l.prog, w, K, mg, base⟩ 3 "_law_rows_right" f20 _ P_l_rows_right 3 (c_l_rows_right C_Formula) := ⟨PySem.W.mg_of X G a20, F_l_rows_right.kp, O_l_rows_right, fun os r outs h hl => (callM_len h).trans hl⟩
  have O_are_places := ok_are_places (cfg := ⟨l.prog, w, K, mg, base⟩) F_are_places h_all F_is_place D_is_place (b_is_place F_is_place) h_isinstance h_tuple
  have D_are_places : FnD ⟨l.prog, w, K, mg, base⟩ 4 "are_places" f21 _ P_are_places 1 c_are_places := ⟨PySem.W.mg_of X G a21, F_are_places.kp, O_are_places, fun os r outs h hl => (callM_len h).trans hl⟩
  have O_are_copies := ok_are_copies (cfg := ⟨l.prog, w, K, mg, base⟩) F_are_copies h_all F_are_rising D_are_rising (b_are_rising F_are_rising) F_is_copy D_is_copy (b_is_copy F_is_copy) h_isinstance h_tuple
  have D_are_copies : FnD ⟨l.prog, w, K, mg, base⟩ 4 "are_copies" f22 _ P_are_copies 2 c_are_copies := ⟨PySem.W.mg_of X G a22, F_are_copies.kp, O_are_copies, fun os r outs h hl => (callM_len h).trans hl⟩
  have O_Book___init__ := ok_Book___init__ (cfg := ⟨l.prog, w, K, mg, base⟩) F_Book___init__ K_Book N_Book_copies N_Book_places F_are_copies D_are_copies (b_are_copies F_are_copies) F_are_places D_are_places (b_are_places F_are_places)
  have CD_Book : ClD ⟨l.prog, w, K, mg, base⟩ 5 "Book" C_Book f23 _ P_Book___init__ 3 (c_Book___init__ C_Book) := ⟨PySem.W.mg_of X G qBook, ⟨mkBook, a23, i23, kcBook⟩, O_Book___init__, fun os r outs h hl => (callM_len h).trans hl⟩
  have O_Formula_book_of := ok_Formula_book_of (cfg := ⟨l.prog, w, K, mg, base⟩) F_Formula_book_of K_Formula N_Formula_places N_Formula_prime g_ALPHABET w1 M_Formula_row (b_Formula_row F_Formula_row) CD_Book (b_Book___init__ F_Book___init__) h_list h_sorted h_tuple
  have M_Formula_book_of : FnMA ⟨l.prog, w, K, mg, base⟩ 7 C_Formula "book_of" f24 1 (c_Formula_book_of C_Book C_Formula) := ⟨K_Formula, ⟨a24, i24, k24⟩, O_Formula_book_of, fun os r outs h hl => (callM_len h).trans hl⟩
  have O_l_made := ok_l_made (cfg := ⟨l.prog, w, K, mg, base⟩) F_l_made M_Formula_book_of h_len
  have D_l_made : FnD ⟨l.prog, w, K, mg, base⟩ 8 "_law_made" f25 _ P_l_made 2 (c_l_made C_Book C_Formula) := ⟨PySem.W.mg_of X G a25, F_l_made.kp, O_l_made, fun os r outs h hl => (callM_len h).trans hl⟩
  have O_l_book_right := ok_l_book_right (cfg := ⟨l.prog, w, K, mg, base⟩) F_l_book_right K_Book N_Book_copies N_Book_places M_Book___eq__ (b_Book___eq__ F_Book___eq__) CD_Book (b_Book___init__ F_Book___init__) (PySem.W.mg_of X G qBook) ⟨K_Book, haBook, hnBook, htBook, hmBook, meBook⟩ F_l_draw D_l_draw (b_l_draw F_l_draw) F_l_made D_l_made (b_l_made F_l_made) F_l_pick D_l_pick (b_l_pick F_l_pick) F_l_row D_l_row (b_l_row F_l_row) h_isinstance h_len h_list h_range h_repr h_sorted h_tuple
  have D_l_book_right : FnD ⟨l.prog, w, K, mg, base⟩ 9 "_law_book_right" f26 _ P_l_book_right 4 (c_l_book_right C_Book C_Formula) := ⟨PySem.W.mg_of X G a26, F_l_book_right.kp, O_l_book_right, fun os r outs h hl => (callM_len h).trans hl⟩
  have O_law := ok_law (cfg := ⟨l.prog, w, K, mg, base⟩) F_law K_Formula N_Formula_places N_Formula_prime N_Formula_size CD_Formula (b_Formula___init__ F_Formula___init__) F_Formula___init__ F_l_book_right D_l_book_right (b_l_book_right F_l_book_right) F_l_deck D_l_deck (b_l_deck F_l_deck) F_l_lists D_l_lists (b_l_lists F_l_lists) F_l_rows_right D_l_rows_right (b_l_rows_right F_l_rows_right) F_l_shape D_l_shape (b_l_shape F_l_shape) h_range h_repr
  exact O_law.weak (sp_law C_Book C_Formula)
end K39
open PySem PySem.W PyProof.Rows
set_option maxHeartbeats 0 in
theorem PySem.Challenge.cw_blendmarks_k39_rows_by_a_formula_holds : PySem.Challenge.rw_blendmarks_k39_rows_by_a_formula.Holds := by
  w_on; o_law; k_head; (case hw => w_witness2)
  k_fill
  refine BM.walkG (l := PySem.Challenge.rw_blendmarks_k39_rows_by_a_formula) (n := 63) (k := 10) (x := "_law_script") (sp := fun w => K39.spLaw _) rfl (by decide) rfl ⟨rfl, by decide, by decide⟩ (fun w h Y => PySem.W.kIn_of Y) ?F (fun _ _ a ns hl _ hS => ⟨a, ns, rfl, hS, hl, fun _ => rfl⟩)
  case F =>
    intro w mg fa h KX G hmg
    refine' K39.all_mk KX G hmg ?qBook ?pgBook ?hdBook ?poBook ?saBook ?kcBook ?haBook ?hnBook ?htBook ?hmBook ?meBook ?mkBook ?qFormula ?pgFormula ?hdFormula ?poFormula ?saFormula ?kcFormula ?mkFormula ?nABook_copies ?nABook_places ?nAFormula_places ?nAFormula_prime ?nAFormula_size ?a1 ?l1 ?c1 ?k1 ?a2 ?l2 ?c2 ?k2 ?a3 ?l3 ?c3 ?k3 ?a4 ?i4 ?l4 ?c4 ?k4 ?a5 ?i5 ?l5 ?c5 ?k5 ?a6 ?i6 ?l6 ?c6 ?k6 ?a7 ?l7 ?c7 ?k7 ?a8 ?l8 ?c8 ?k8 ?a9 ?l9 ?c9 ?k9 ?a10 ?l10 ?c10 ?k10 ?a11 ?l11 ?c11 ?k11 ?a12 ?l12 ?c12 ?k12 ?a13 ?i13 ?l13 ?c13 ?k13 ?a14 ?l14 ?c14 ?k14 ?a15 ?l15 ?c15 ?k15 ?a16 ?l16 ?c16 ?k16 ?a17 ?l17 ?c17 ?k17 ?a18 ?l18 ?c18 ?k18 ?a19 ?l19 ?c19 ?k19 ?a20 ?l20 ?c20 ?k20 ?a21 ?l21 ?c21 ?k21 ?a22 ?l22 ?c22 ?k22 ?a23 ?i23 ?l23 ?c23 ?k23 ?a24 ?i24 ?l24 ?c24 ?k24 ?a25 ?l25 ?c25 ?k25 ?a26 ?l26 ?c26 ?k26 ?a27 ?l27 ?c27 ?k27 ?z1 ?z2 ?z3 ?z4 ?z5 ?z6 ?z7 ?z8 ?z9 ?z10 ?z11 ?z12 ?y1 ?w1 ?y2 ?w2 ?y3 ?w3 ?y4 ?w4 ?y5 ?w5
    (case qBook => k_is); (case pgBook => k_is); (case hdBook => k_is); (case poBook => k_is); (case saBook => k_is); (case kcBook => k_is); (case haBook => k_is); (case hnBook => k_is); (case htBook => k_is); (case hmBook => k_is); (case meBook => kernel_rfl); (case mkBook => k_is); (case qFormula => k_is); (case pgFormula => k_is); (case hdFormula => k_is); (case poFormula => k_is); (case saFormula => k_is); (case kcFormula => k_is); (case mkFormula => k_is); (case nABook_copies => k_is); (case nABook_places => k_is); (case nAFormula_places => k_is); (case nAFormula_prime => k_is); (case nAFormula_size => k_is); (case a1 => k_is); (case l1 => k_is); (case c1 => k_is); (case k1 => k_is); (case a2 => k_is); (case l2 => k_is); (case c2 => k_is); (case k2 => k_is); (case a3 => k_is); (case l3 => k_is); (case c3 => k_is); (case k3 => k_is); (case a4 => k_is); (case i4 => k_is); (case l4 => k_is); (case c4 => k_is); (case k4 => k_is); (case a5 => k_is); (case i5 => k_is); (case l5 => k_is); (case c5 => k_is); (case k5 => k_is); (case a6 => k_is); (case i6 => k_is); (case l6 => k_is); (case c6 => k_is); (case k6 => k_is); (case a7 => k_is); (case l7 => k_is); (case c7 => k_is); (case k7 => k_is); (case a8 => k_is); (case l8 => k_is); (case c8 => k_is); (case k8 => k_is); (case a9 => k_is); (case l9 => k_is); (case c9 => k_is); (case k9 => k_is); (case a10 => k_is); (case l10 => k_is); (case c10 => k_is); (case k10 => k_is); (case a11 => k_is); (case l11 => k_is); (case c11 => k_is); (case k11 => k_is); (case a12 => k_is); (case l12 => k_is); (case c12 => k_is); (case k12 => k_is); (case a13 => k_is); (case i13 => k_is); (case l13 => k_is); (case c13 => k_is); (case k13 => k_is); (case a14 => k_is); (case l14 => k_is); (case c14 => k_is); (case k14 => k_is); (case a15 => k_is); (case l15 => k_is); (case c15 => k_is); (case k15 => k_is); (case a16 => k_is); (case l16 => k_is); (case c16 => k_is); (case k16 => k_is); (case a17 => k_is); (case l17 => k_is); (case c17 => k_is); (case k17 => k_is); (case a18 => k_is); (case l18 => k_is); (case c18 => k_is); (case k18 => k_is); (case a19 => k_is); (case l19 => k_is); (case c19 => k_is); (case k19 => k_is); (case a20 => k_is); (case l20 => k_is); (case c20 => k_is); (case k20 => k_is); (case a21 => k_is); (case l21 => k_is); (case c21 => k_is); (case k21 => k_is); (case a22 => k_is); (case l22 => k_is); (case c22 => k_is); (case k22 => k_is); (case a23 => k_is); (case i23 => k_is); (case l23 => k_is); (case c23 => k_is); (case k23 => k_is); (case a24 => k_is); (case i24 => k_is); (case l24 => k_is); (case c24 => k_is); (case k24 => k_is); (case a25 => k_is); (case l25 => k_is); (case c25 => k_is); (case k25 => k_is); (case a26 => k_is); (case l26 => k_is); (case c26 => k_is); (case k26 => k_is); (case a27 => k_is); (case l27 => k_is); (case c27 => k_is); (case k27 => k_is); (case z1 => k_is); (case z2 => k_is); (case z3 => k_is); (case z4 => k_is); (case z5 => k_is); (case z6 => k_is); (case z7 => k_is); (case z8 => k_is); (case z9 => k_is); (case z10 => k_is); (case z11 => k_is); (case z12 => k_is); (case y1 => k_is); (case w1 => exact ⟨_, rfl⟩); (case y2 => k_is); (case w2 => exact ⟨_, rfl⟩); (case y3 => k_is); (case w3 => exact ⟨_, rfl⟩); (case y4 => k_is); (case w4 => exact ⟨_, rfl⟩); (case y5 => k_is); (case w5 => exact ⟨_, rfl⟩)
