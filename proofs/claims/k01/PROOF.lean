import PyProof.Rows.All
import Wide.All
import OpenK.AllK
import Wide.FinOn
import KE.KStateDown
import HandS.ForMost
import HandS.ForExc
import HandS.Flow
import HandS.IsInst
import HandS.TupAny
import HandS.Deep
import HandS.Conv
import HandS.StrMore
import HandS.Codes
import HandS.TryMany
import HandS.CallSlots
import HandS.Defaults
import HandS.SortOrd
import HandS.Head0
import HandS.Head1
import HandS.Head2
import HandS.HeadEnd
import HandS.HeadHook1
import HandS.HeadHook2
import HandS.Small
import PySem.Challenge.RW_calltower_k01_names
set_option Elab.async false
set_option linter.all false
set_option maxRecDepth 100000
set_option maxHeartbeats 0
/-! CT1: values as data, heaps of data, what stands for what. -/
namespace CT
open PySem PySem.Spec PyProof.Rows L2

/-- data: numbers, texts (as lists of signs), tuples, constant lists; ref: a changing thing at an address -/
inductive D where
  | non | bl (b : Bool) | int (i : Int) | str (x : List Nat) | tup (xs : List D) | cl (xs : List D) | ref (a : Addr) | ty (n : String) | kls (c : Str)
  deriving Inhabited
/-- what stands at an address -/
inductive DO where
  | lst (xs : List D) | dic (kvs : List (D × D)) | ins (c : Str) (fs : List (Str × D))
abbrev DH := Addr → Option DO
def ud (H : DH) (a : Addr) (o : DO) : DH := fun b => if b = a then some o else H b
theorem ud_same {H : DH} {a : Addr} {o : DO} : ud H a o a = some o := by unfold ud; rw [if_pos rfl]
theorem ud_ne {H : DH} {a b : Addr} {o : DO} (h : b ≠ a) : ud H a o b = H b := by unfold ud; rw [if_neg h]
theorem ud_ud {H : DH} {a : Addr} {o u : DO} : ud (ud H a o) a u = ud H a u := by funext b; unfold ud; split <;> rfl

def S (x : List Nat) : Str := ⟨x.toArray⟩
def asc (x : List Nat) : Prop := ∀ c ∈ x, c < 128
theorem S_inj {x y : List Nat} (h : S x = S y) : x = y := by
  unfold S at h
  injection h with h
  simpa using h

/-- a list that never changes: the script, the module's own -/
def ClL (K : PySem.W.Frag) (H : Hp) (a : Addr) (xs : List V) : Prop :=
  (∃ o, H a = some (.frz o (.lst xs))) ∨
    ∃ (o : Obj) (its : Array Value) (n : Nat), K.lookup a = some o ∧ o.cls = .type "list" ∧ o.dict = none ∧ o.data = .seq its n ∧ its.size ≤ sizeLine ∧ Vals xs its.toList
theorem ClL.sq {K : PySem.W.Frag} {H : Hp} {a : Addr} {xs : List V} (h : ClL K H a xs) : SqL K H a xs := by
  rcases h with ⟨o, h⟩ | h
  · exact .inl (.inr ⟨o, h⟩)
  · exact .inr h
mutual
def Im (K : PySem.W.Frag) (H : Hp) : D → V → Prop
  | .non, v => v = .non
  | .bl b, v => v = .bl b
  | .int i, v => v = .int i
  | .str x, v => v = .str (S x) ∧ asc x
  | .tup xs, v => ∃ a vs, v = .ref a ∧ SqT K H a vs ∧ ImL K H xs vs
  | .cl xs, v => ∃ a vs, v = .ref a ∧ ClL K H a vs ∧ ImL K H xs vs
  | .ref a, v => v = .ref a
  | .ty n, v => v = .ty n
  | .kls c, v => v = .ref (He.ga K c)
def ImL (K : PySem.W.Frag) (H : Hp) : List D → List V → Prop
  | [], vs => vs = []
  | d :: ds, vs => ∃ w ws, vs = w :: ws ∧ Im K H d w ∧ ImL K H ds ws
end
theorem ImL.length {K : PySem.W.Frag} {H : Hp} : ∀ {ds : List D} {vs : List V}, ImL K H ds vs → ds.length = vs.length
  | [], vs, h => by simp only [ImL] at h; subst h; rfl
  | d :: ds, vs, h => by
    simp only [ImL] at h
    obtain ⟨w, ws, rfl, _, h2⟩ := h
    simp [ImL.length h2]
theorem ImL.nil {K : PySem.W.Frag} {H : Hp} : ImL K H [] [] := by simp only [ImL]
theorem ImL.cons {K : PySem.W.Frag} {H : Hp} {d : D} {ds : List D} {v : V} {vs : List V} (h : Im K H d v) (h2 : ImL K H ds vs) : ImL K H (d :: ds) (v :: vs) := by
  simp only [ImL]; exact ⟨v, vs, rfl, h, h2⟩
theorem ImL.app {K : PySem.W.Frag} {H : Hp} : ∀ {ds : List D} {vs : List V} {es : List D} {ws : List V}, ImL K H ds vs → ImL K H es ws → ImL K H (ds ++ es) (vs ++ ws)
  | [], vs, es, ws, h, g => by simp only [ImL] at h; subst h; exact g
  | d :: ds, vs, es, ws, h, g => by
    simp only [ImL] at h
    obtain ⟨w, ws', rfl, h1, h2⟩ := h
    exact ImL.cons h1 (ImL.app h2 g)
theorem ImL.take {K : PySem.W.Frag} {H : Hp} : ∀ (n : Nat) {ds : List D} {vs : List V}, ImL K H ds vs → ImL K H (ds.take n) (vs.take n)
  | 0, ds, vs, h => by simp only [List.take_zero]; exact ImL.nil
  | n + 1, [], vs, h => by simp only [ImL] at h; subst h; exact ImL.nil
  | n + 1, d :: ds, vs, h => by
    simp only [ImL] at h
    obtain ⟨w, ws', rfl, h1, h2⟩ := h
    exact ImL.cons h1 (ImL.take n h2)
theorem ImL.drop {K : PySem.W.Frag} {H : Hp} : ∀ (n : Nat) {ds : List D} {vs : List V}, ImL K H ds vs → ImL K H (ds.drop n) (vs.drop n)
  | 0, ds, vs, h => h
  | n + 1, [], vs, h => by simp only [ImL] at h; subst h; exact ImL.nil
  | n + 1, d :: ds, vs, h => by
    simp only [ImL] at h
    obtain ⟨w, ws', rfl, h1, h2⟩ := h
    exact ImL.drop n h2
theorem ImL.get {K : PySem.W.Frag} {H : Hp} : ∀ {i : Nat} {ds : List D} {vs : List V} {d : D}, ImL K H ds vs → ds[i]? = some d → ∃ v, vs[i]? = some v ∧ Im K H d v
  | i, [], vs, d, h, e => by simp at e
  | 0, x :: ds, vs, d, h, e => by
    simp only [ImL] at h
    obtain ⟨w, ws', rfl, h1, h2⟩ := h
    simp at e; subst e
    exact ⟨w, rfl, h1⟩
  | i + 1, x :: ds, vs, d, h, e => by
    simp only [ImL] at h
    obtain ⟨w, ws', rfl, h1, h2⟩ := h
    obtain ⟨v, e1, e2⟩ := ImL.get (i := i) h2 (by simpa using e)
    exact ⟨v, by simpa using e1, e2⟩
theorem ImL.set {K : PySem.W.Frag} {H : Hp} {d : D} {v : V} (h : Im K H d v) : ∀ (i : Nat) {ds : List D} {vs : List V}, ImL K H ds vs → ImL K H (ds.set i d) (vs.set i v)
  | i, [], vs, g => by simp only [ImL] at g; subst g; exact ImL.nil
  | 0, x :: ds, vs, g => by
    simp only [ImL] at g
    obtain ⟨w, ws', rfl, h1, h2⟩ := g
    exact ImL.cons h h2
  | i + 1, x :: ds, vs, g => by
    simp only [ImL] at g
    obtain ⟨w, ws', rfl, h1, h2⟩ := g
    exact ImL.cons h1 (ImL.set h i h2)

/-- what never changes stays -/
structure Sub (H H' : Hp) : Prop where
  tups : ∀ b xs, H b = some (.tup xs) → H' b = some (.tup xs)
  frzs : ∀ b o u, H b = some (.frz o u) → H' b = some (.frz o u)
theorem Sub.refl (H : Hp) : Sub H H := ⟨fun _ _ h => h, fun _ _ _ h => h⟩
theorem Sub.trans {H H1 H2 : Hp} (a : Sub H H1) (b : Sub H1 H2) : Sub H H2 := ⟨fun c xs h => b.tups c xs (a.tups c xs h), fun c o u h => b.frzs c o u (a.frzs c o u h)⟩
theorem Sub.new {H : Hp} {p : Addr} {o : HO} (h : H p = none) : Sub H (upd H p o) :=
  ⟨fun b xs e => by rw [upd_ne (ne_of_none e h)]; exact e, fun b ob u e => by rw [upd_ne (ne_of_none e h)]; exact e⟩
theorem Sub.write {H : Hp} {p : Addr} {o : HO} (h : Mut (H p)) : Sub H (upd H p o) :=
  ⟨fun b xs e => by rw [upd_ne (fun z => by subst z; rw [e] at h; exact h)]; exact e, fun b ob u e => by rw [upd_ne (fun z => by subst z; rw [e] at h; exact h)]; exact e⟩
theorem sqT_sub {K : PySem.W.Frag} {H H' : Hp} {a : Addr} {xs : List V} (s : Sub H H') (h : SqT K H a xs) : SqT K H' a xs := by
  rcases h with (h | ⟨o, h⟩) | h
  · exact .inl (.inl (s.tups _ _ h))
  · exact .inl (.inr ⟨o, s.frzs _ _ _ h⟩)
  · exact .inr h
theorem clL_sub {K : PySem.W.Frag} {H H' : Hp} {a : Addr} {xs : List V} (s : Sub H H') (h : ClL K H a xs) : ClL K H' a xs := by
  rcases h with ⟨o, h⟩ | h
  · exact .inl ⟨o, s.frzs _ _ _ h⟩
  · exact .inr h
mutual
theorem Im.sub {K : PySem.W.Frag} {H H' : Hp} (s : Sub H H') : ∀ (d : D) (v : V), Im K H d v → Im K H' d v
  | .non, v, h => by simp only [Im] at h ⊢; exact h
  | .bl b, v, h => by simp only [Im] at h ⊢; exact h
  | .int i, v, h => by simp only [Im] at h ⊢; exact h
  | .str x, v, h => by simp only [Im] at h ⊢; exact h
  | .tup xs, v, h => by
    simp only [Im] at h ⊢
    obtain ⟨a, vs, e, h1, h2⟩ := h
    exact ⟨a, vs, e, sqT_sub s h1, ImL.sub s xs vs h2⟩
  | .cl xs, v, h => by
    simp only [Im] at h ⊢
    obtain ⟨a, vs, e, h1, h2⟩ := h
    exact ⟨a, vs, e, clL_sub s h1, ImL.sub s xs vs h2⟩
  | .ref a, v, h => by simp only [Im] at h ⊢; exact h
  | .ty n, v, h => by simp only [Im] at h ⊢; exact h
  | .kls c, v, h => by simp only [Im] at h ⊢; exact h
theorem ImL.sub {K : PySem.W.Frag} {H H' : Hp} (s : Sub H H') : ∀ (ds : List D) (vs : List V), ImL K H ds vs → ImL K H' ds vs
  | [], vs, h => by simp only [ImL] at h ⊢; exact h
  | d :: ds, vs, h => by
    simp only [ImL] at h ⊢
    obtain ⟨w, ws, e, h1, h2⟩ := h
    exact ⟨w, ws, e, Im.sub s d w h1, ImL.sub s ds ws h2⟩
end
/-- a key -/
def keyR (d : D) (k : Key) : Prop := match d with
  | .int i => k = .inl i
  | .str x => k = .inr (S x) ∧ asc x
  | _ => False
inductive KvR (K : PySem.W.Frag) (H : Hp) : List (D × D) → List (Key × V) → Prop
  | nil : KvR K H [] []
  | cons {d e : D} {k : Key} {v : V} {l : List (D × D)} {l' : List (Key × V)} : keyR d k → Im K H e v → KvR K H l l' → KvR K H ((d, e) :: l) ((k, v) :: l')
inductive FsR (K : PySem.W.Frag) (H : Hp) : List (Str × D) → List (Str × V) → Prop
  | nil : FsR K H [] []
  | cons {f : Str} {e : D} {v : V} {l : List (Str × D)} {l' : List (Str × V)} : Im K H e v → FsR K H l l' → FsR K H ((f, e) :: l) ((f, v) :: l')
theorem KvR.sub {K : PySem.W.Frag} {H H' : Hp} (s : Sub H H') {l : List (D × D)} {l' : List (Key × V)} (h : KvR K H l l') : KvR K H' l l' := by
  induction h with
  | nil => exact .nil
  | cons a b _ ih => exact .cons a (Im.sub s _ _ b) ih
theorem FsR.sub {K : PySem.W.Frag} {H H' : Hp} (s : Sub H H') {l : List (Str × D)} {l' : List (Str × V)} (h : FsR K H l l') : FsR K H' l l' := by
  induction h with
  | nil => exact .nil
  | cons b _ ih => exact .cons (Im.sub s _ _ b) ih
def OR (K : PySem.W.Frag) (H : Hp) (a : Addr) : DO → Prop
  | .lst xs => ∃ vs, H a = some (.lst vs) ∧ ImL K H xs vs
  | .dic kvs => ∃ vs, H a = some (.dK vs) ∧ KvR K H kvs vs
  | .ins c fs => ∃ dx vs, H a = some (.ins (He.ga K c) dx vs) ∧ FsR K H fs vs
def HR (K : PySem.W.Frag) (Hd : DH) (H : Hp) : Prop := ∀ a o, Hd a = some o → OR K H a o
theorem OR.some {K : PySem.W.Frag} {H : Hp} {a : Addr} {o : DO} (h : OR K H a o) : ∃ u, H a = some u ∧ Mut (some u) := by
  cases o with
  | lst xs => obtain ⟨vs, e, _⟩ := h; exact ⟨_, e, trivial⟩
  | dic xs => obtain ⟨vs, e, _⟩ := h; exact ⟨_, e, trivial⟩
  | ins c fs => obtain ⟨dx, vs, e, _⟩ := h; exact ⟨_, e, trivial⟩
theorem HR.none {K : PySem.W.Frag} {Hd : DH} {H : Hp} (h : HR K Hd H) {p : Addr} (e : H p = none) : Hd p = none := by
  cases q : Hd p with
  | none => rfl
  | some o => obtain ⟨u, e2, _⟩ := (h p o q).some; rw [e] at e2; cases e2
theorem OR.stay {K : PySem.W.Frag} {H H' : Hp} (s : Sub H H') {a : Addr} {o : DO} (e : H' a = H a) (h : OR K H a o) : OR K H' a o := by
  cases o with
  | lst xs => obtain ⟨vs, e2, r⟩ := h; exact ⟨vs, e.trans e2, ImL.sub s _ _ r⟩
  | dic xs => obtain ⟨vs, e2, r⟩ := h; exact ⟨vs, e.trans e2, r.sub s⟩
  | ins c fs => obtain ⟨dx, vs, e2, r⟩ := h; exact ⟨dx, vs, e.trans e2, r.sub s⟩
/-- a thing that is not told stands new -/
theorem HR.untold {K : PySem.W.Frag} {Hd : DH} {H : Hp} (h : HR K Hd H) {p : Addr} {o : HO} (e : H p = Option.none) : HR K Hd (upd H p o) := fun a u q =>
  (h a u q).stay (Sub.new e) (upd_ne (by
    obtain ⟨w, e2, _⟩ := (h a u q).some
    exact ne_of_none e2 e))
theorem HR.new {K : PySem.W.Frag} {Hd : DH} {H : Hp} (h : HR K Hd H) {p : Addr} {o : HO} {u : DO} (e : H p = Option.none) (r : OR K (upd H p o) p u) : HR K (ud Hd p u) (upd H p o) := fun a w q => by
  by_cases z : a = p
  · subst z
    rw [ud_same] at q
    cases q
    exact r
  · rw [ud_ne z] at q
    exact h.untold e a w q
theorem HR.write {K : PySem.W.Frag} {Hd : DH} {H : Hp} (h : HR K Hd H) {p : Addr} {o : HO} {u : DO} (e : Mut (H p)) (r : OR K (upd H p o) p u) : HR K (ud Hd p u) (upd H p o) := fun a w q => by
  by_cases z : a = p
  · subst z
    rw [ud_same] at q
    cases q
    exact r
  · rw [ud_ne z] at q
    exact (h a w q).stay (Sub.write e) (upd_ne z)

/-! ### slots -/
abbrev DS := List (Option D)
structure SR (K : PySem.W.Frag) (H : Hp) (δ : DS) (σ : L2.St) : Prop where
  len : δ.length = σ.length
  get : ∀ (i : Nat) (d : D), δ[i]? = some (some d) → ∃ v, σ[i]? = some (some v) ∧ Im K H d v
theorem SR.sub {K : PySem.W.Frag} {H H' : Hp} {δ : DS} {σ : L2.St} (s : Sub H H') (h : SR K H δ σ) : SR K H' δ σ :=
  ⟨h.len, fun i d e => let ⟨v, e1, e2⟩ := h.get i d e; ⟨v, e1, Im.sub s _ _ e2⟩⟩
theorem SR.set {K : PySem.W.Frag} {H : Hp} {δ : DS} {σ : L2.St} {d : D} {v : V} (h : SR K H δ σ) (i : Nat) (r : Im K H d v) : SR K H (δ.set i (some d)) (σ.set i (some v)) := by
  refine ⟨by simp [h.len], fun j e q => ?_⟩
  by_cases z : i = j
  · subst z
    by_cases l : i < δ.length
    · rw [List.getElem?_set_self l] at q
      cases q
      exact ⟨v, by rw [List.getElem?_set_self (by rw [← h.len]; exact l)], r⟩
    · rw [List.getElem?_eq_none (by simpa using l)] at q
      cases q
  · rw [List.getElem?_set_ne z] at q
    obtain ⟨w, e1, e2⟩ := h.get j e q
    exact ⟨w, by rw [List.getElem?_set_ne z]; exact e1, e2⟩
theorem SR.unset {K : PySem.W.Frag} {H : Hp} {δ : DS} {σ : L2.St} (h : SR K H δ σ) (i : Nat) : SR K H (δ.set i none) (σ.set i none) := by
  refine ⟨by simp [h.len], fun j e q => ?_⟩
  by_cases z : i = j
  · subst z
    by_cases l : i < δ.length
    · rw [List.getElem?_set_self l] at q
      cases q
    · rw [List.getElem?_eq_none (by simpa using l)] at q
      cases q
  · rw [List.getElem?_set_ne z] at q
    obtain ⟨w, e1, e2⟩ := h.get j e q
    exact ⟨w, by rw [List.getElem?_set_ne z]; exact e1, e2⟩

/-! ### what is wanted -/
abbrev DQ := D → DH → Prop
abbrev DX := Str → List (Str × D) → DH → Prop
abbrev DTE := DS → DH → DQ → DX → Prop
abbrev DTA := DS → DH → (List D → DH → Prop) → DX → Prop
abbrev DTT := DS → DH → (Bool → DH → Prop) → DX → Prop
/-- an exception, as it is raised -/
def XR (K : PySem.W.Frag) (H : Hp) (c : Str) (fs : List (Str × D)) (cls : Value) (d : Option Addr) : Prop := cls = .ref (He.ga K c) ∧ fs = [] ∧ d = none
structure RX (K : PySem.W.Frag) (W : WX) (X : DX) (σ : L2.St) (H : Hp) : Prop where
  x : ∀ c fs Hd' H' cls dd, X c fs Hd' → Sub H H' → HR K Hd' H' → XR K H' c fs cls dd → W cls dd σ H'
def tOf (K : PySem.W.Frag) (W : WX) (t : DTE) : TE := fun σ H Q => ∃ δ Hd R X, SR K H δ σ ∧ HR K Hd H ∧ t δ Hd R X ∧
  (∀ d Hd' H' v, R d Hd' → Sub H H' → HR K Hd' H' → Im K H' d v → Q v H') ∧ RX K W X σ H
def tOfA (K : PySem.W.Frag) (W : WX) (t : DTA) : TA := fun σ H Q => ∃ δ Hd R X, SR K H δ σ ∧ HR K Hd H ∧ t δ Hd R X ∧
  (∀ d Hd' H' v, R d Hd' → Sub H H' → HR K Hd' H' → ImL K H' d v → Q v H') ∧ RX K W X σ H
def tOfT (K : PySem.W.Frag) (W : WX) (t : DTT) : TT := fun σ H Q => ∃ δ Hd R X, SR K H δ σ ∧ HR K Hd H ∧ t δ Hd R X ∧
  (∀ b Hd' H', R b Hd' → Sub H H' → HR K Hd' H' → Q b H') ∧ RX K W X σ H
structure DE where
  nx : DS → DH → Prop
  rt : D → DH → Prop
  bk : DS → DH → Prop := fun _ _ => False
  ct : DS → DH → Prop := fun _ _ => False
  ex : Str → List (Str × D) → DS → DH → Prop := fun _ _ _ _ => False
abbrev DTS := DE → DS → DH → Prop
structure ER (K : PySem.W.Frag) (W : WX) (H0 : Hp) (E : DE) (F : Ends) : Prop where
  nx : ∀ δ Hd σ H, E.nx δ Hd → Sub H0 H → SR K H δ σ → HR K Hd H → F.nx σ H
  rt : ∀ d Hd v H, E.rt d Hd → Sub H0 H → HR K Hd H → Im K H d v → F.rt v H
  bk : ∀ δ Hd σ H, E.bk δ Hd → Sub H0 H → SR K H δ σ → HR K Hd H → F.bk σ H
  ct : ∀ δ Hd σ H, E.ct δ Hd → Sub H0 H → SR K H δ σ → HR K Hd H → F.ct σ H
  ex : ∀ c fs δ Hd cls dd σ H, E.ex c fs δ Hd → Sub H0 H → SR K H δ σ → HR K Hd H → XR K H c fs cls dd → W cls dd σ H
theorem ER.sub {K : PySem.W.Frag} {W : WX} {H0 H1 : Hp} {E : DE} {F : Ends} (h : ER K W H0 E F) (s : Sub H0 H1) : ER K W H1 E F :=
  ⟨fun δ Hd σ H n k => h.nx δ Hd σ H n (s.trans k), fun d Hd v H n k => h.rt d Hd v H n (s.trans k), fun δ Hd σ H n k => h.bk δ Hd σ H n (s.trans k), fun δ Hd σ H n k => h.ct δ Hd σ H n (s.trans k), fun c fs δ Hd cls dd σ H n k => h.ex c fs δ Hd cls dd σ H n (s.trans k)⟩
def tOfS (K : PySem.W.Frag) (W : WX) (t : DTS) : TS := fun F σ H => ∃ δ Hd E, SR K H δ σ ∧ HR K Hd H ∧ t E δ Hd ∧ ER K W H E F

theorem RX.sub {K : PySem.W.Frag} {W : WX} {X : DX} {σ : L2.St} {H H' : Hp} (h : RX K W X σ H) (s : Sub H H') : RX K W X σ H' := ⟨fun c fs Hd' H2 cls dd q s2 r x => h.x c fs Hd' H2 cls dd q (s.trans s2) r x⟩
def JE (X : Cx) (e : Expr) (t : DTE) : Prop := ∀ W, Takes X W → PE X e (tOf X.K W t)
def JA (X : Cx) (es : List Expr) (t : DTA) : Prop := ∀ W, Takes X W → PA X es (tOfA X.K W t)
def JT (X : Cx) (e : Expr) (t : DTT) : Prop := ∀ W, Takes X W → PT X e (tOfT X.K W t)
def JS (X : Cx) (st : Stmt) (t : DTS) : Prop := ∀ W, Takes X W → PS X st (tOfS X.K W t)
def JSs (X : Cx) (st : List Stmt) (t : DTS) : Prop := ∀ W, Takes X W → PSs X st (tOfS X.K W t)
theorem PE.imp {X : Cx} {e : Expr} {t t' : TE} (h : PE X e t) (i : ∀ σ H Q, t' σ H Q → t σ H Q) : PE X e t' := ⟨fun pins s σ H Q I q => h.run pins s σ H Q I (i σ H Q q)⟩
theorem PT.imp {X : Cx} {e : Expr} {t t' : TT} (h : PT X e t) (i : ∀ σ H Q, t' σ H Q → t σ H Q) : PT X e t' := ⟨fun pins s σ H Q I q => h.run pins s σ H Q I (i σ H Q q)⟩
theorem PA.imp {X : Cx} {e : List Expr} {t t' : TA} (h : PA X e t) (i : ∀ σ H Q, t' σ H Q → t σ H Q) : PA X e t' := ⟨fun pos pins s σ H Q I q => h.run pos pins s σ H Q I (i σ H Q q)⟩
theorem PS.imp {X : Cx} {e : Stmt} {t t' : TS} (h : PS X e t) (i : ∀ D σ H, t' D σ H → t D σ H) : PS X e t' := ⟨fun pins s σ H D I q => h.run pins s σ H D I (i D σ H q)⟩
theorem PSs.imp {X : Cx} {e : List Stmt} {t t' : TS} (h : PSs X e t) (i : ∀ D σ H, t' D σ H → t D σ H) : PSs X e t' := ⟨fun pins s σ H D I q => h.run pins s σ H D I (i D σ H q)⟩
end CT

/-! CT2: code, and what it does. -/
namespace CT
open PySem PySem.Spec PyProof.Rows L2

/-! ### data -/
mutual
def eqD : D → D → Bool
  | .non, .non => true
  | .bl a, .bl b => a == b
  | .bl a, .int j => (if a then 1 else 0) == j
  | .int i, .bl b => i == (if b then 1 else 0)
  | .int i, .int j => i == j
  | .str x, .str y => x == y
  | .tup xs, .tup ys => eqL xs ys
  | .cl xs, .cl ys => eqL xs ys
  | _, _ => false
def eqL : List D → List D → Bool
  | [], [] => true
  | x :: xs, y :: ys => eqD x y && eqL xs ys
  | _, _ => false
end
mutual
/-- no changing thing within -/
def pur : D → Bool
  | .non => true
  | .bl _ => true
  | .int _ => true
  | .str _ => true
  | .tup xs => purL xs
  | .cl xs => purL xs
  | _ => false
def purL : List D → Bool
  | [] => true
  | x :: xs => pur x && purL xs
end
mutual
def dep : D → Nat
  | .tup xs => depL xs + 1
  | .cl xs => depL xs + 1
  | _ => 0
def depL : List D → Nat
  | [] => 0
  | x :: xs => max (dep x) (depL xs)
end
def lsAt (H : DH) : D → Option (List D)
  | .cl xs => some xs
  | .ref a => match H a with
    | some (.lst xs) => some xs
    | _ => none
  | _ => none
def sqAt (H : DH) : D → Option (List D)
  | .tup xs => some xs
  | d => lsAt H d
def tru (H : DH) : D → Option Bool
  | .non => some false
  | .bl b => some b
  | .int i => some (i != 0)
  | .str x => if x.length ≤ sizeLine then some (!x.isEmpty) else none
  | .tup xs => some (!xs.isEmpty)
  | .cl xs => some (!xs.isEmpty)
  | .ref a => match H a with
    | some (.lst xs) => some (!xs.isEmpty)
    | some (.dic xs) => some (!xs.isEmpty)
    | _ => none
  | _ => none
def optP {α : Type} (o : Option α) (Q : α → Prop) : Prop := match o with
  | some a => Q a
  | none => False
/-- equality, where it is plain -/
def eqO (H : DH) (x y : D) : Option Bool := match lsAt H x, lsAt H y with
  | some xs, some ys => if purL xs && purL ys && decide (depL xs ≤ 60) && decide (depL ys ≤ 60) then some (eqL xs ys) else none
  | _, _ => if pur x && pur y && decide (dep x ≤ 60) && decide (dep y ≤ 60) then some (eqD x y) else none
def inL (x : D) (ys : List D) : Bool := ys.any fun y => eqD y x
def dget (kvs : List (D × D)) (k : D) : Option D := match kvs with
  | [] => none
  | (x, v) :: r => if eqD x k then some v else dget r k
def dput (kvs : List (D × D)) (k v : D) : List (D × D) :=
  if kvs.any (fun p => eqD p.1 k) then kvs.map (fun p => if eqD p.1 k then (p.1, v) else p) else kvs ++ [(k, v)]
def ddel (kvs : List (D × D)) (k : D) : List (D × D) := match kvs with
  | [] => []
  | (x, w) :: r => if eqD x k then r else (x, w) :: ddel r k
def isKey : D → Bool
  | .int _ => true
  | .str _ => true
  | _ => false
def inO (H : DH) (x y : D) : Option Bool := match y with
  | .str z => (match x with
    | .str [c] => some (decide (c ∈ z))
    | _ => none)
  | .ref a => (match H a with
    | some (.lst ys) => if pur x && purL ys && decide (dep x ≤ 60) && decide (depL ys ≤ 60) then some (inL x ys) else none
    | some (.dic kvs) => if isKey x then some (dget kvs x).isSome else none
    | _ => none)
  | .tup ys => if pur x && purL ys && decide (dep x ≤ 60) && decide (depL ys ≤ 60) then some (inL x ys) else none
  | .cl ys => if pur x && purL ys && decide (dep x ≤ 60) && decide (depL ys ≤ 60) then some (inL x ys) else none
  | _ => none
def lexB : List Nat → List Nat → Bool
  | _, [] => false
  | [], _ :: _ => true
  | a :: x, b :: y => if a < b then true else if b < a then false else lexB x y
def cmpO (op : CmpOp) (H : DH) (x y : D) : Option Bool := match op with
  | .Eq => eqO H x y
  | .NotEq => (eqO H x y).map (!·)
  | .Lt => (match x, y with
    | .int i, .int j => some (decide (i < j))
    | _, _ => none)
  | .LtE => (match x, y with
    | .int i, .int j => some (decide (i ≤ j))
    | _, _ => none)
  | .Gt => (match x, y with
    | .int i, .int j => some (decide (j < i))
    | _, _ => none)
  | .GtE => (match x, y with
    | .int i, .int j => some (decide (j ≤ i))
    | _, _ => none)
  | .Is => (match x, y with
    | .non, .non => some true
    | _, .non => some false
    | _, _ => none)
  | .IsNot => (match x, y with
    | .non, .non => some false
    | _, .non => some true
    | _, _ => none)
  | .In => inO H x y
  | .NotIn => (inO H x y).map (!·)
/-- a new thing -/
def new (H : DH) (o : DO) (Q : DQ) : Prop := ∀ p, H p = none → Q (.ref p) (ud H p o)
def binO (op : Operator) (x y : D) (H : DH) (Q : DQ) : Prop := match op with
  | .Add => (match x, y with
    | .int i, .int j => Q (.int (i + j)) H
    | .str a, .str b => a.length + b.length ≤ sizeLine ∧ Q (.str (a ++ b)) H
    | .tup a, .tup b => a.length + b.length ≤ sizeLine ∧ Q (.tup (a ++ b)) H
    | .ref a, .ref b => (match H a, H b with
      | some (.lst xs), some (.lst ys) => xs.length + ys.length ≤ sizeLine ∧ new H (.lst (xs ++ ys)) Q
      | _, _ => False)
    | _, _ => False)
  | .Sub => (match x, y with
    | .int i, .int j => Q (.int (i - j)) H
    | _, _ => False)
  | .Mult => (match x, y with
    | .int i, .int j => ((-(2 ^ 64) < i ∧ i < 2 ^ 64) ∨ (-(2 ^ 64) < j ∧ j < 2 ^ 64)) ∧ Q (.int (i * j)) H
    | _, _ => False)
  | .FloorDiv => (match x, y with
    | .int i, .int j => (0 < j ∧ j < 1073741824) ∧ Q (.int (i / j)) H
    | _, _ => False)
  | .Mod => (match x, y with
    | .int i, .int j => 0 < j ∧ Q (.int (i % j)) H
    | _, _ => False)
  | _ => False
def cut {α : Type} (xs : List α) (lo hi : Option Int) : List α := (xs.drop (HT.sIx xs.length 0 lo)).take (HT.sIx xs.length xs.length hi - HT.sIx xs.length 0 lo)
def slcO (x : D) (lo hi : Option Int) (H : DH) (Q : DQ) : Prop := match x with
  | .str z => z.length ≤ sizeLine ∧ Q (.str (cut z lo hi)) H
  | .tup xs => Q (.tup (cut xs lo hi)) H
  | .cl xs => new H (.lst (cut xs lo hi)) Q
  | .ref a => (match H a with
    | some (.lst xs) => new H (.lst (cut xs lo hi)) Q
    | _ => False)
  | _ => False
def idxO (x i : D) (H : DH) (Q : DQ) : Prop := match x with
  | .str z => (match i with
    | .int k => z.length ≤ sizeLine ∧ optP (atI z k) fun c => Q (.str [c]) H
    | _ => False)
  | .ref a => (match H a with
    | some (.lst xs) => (match i with
      | .int k => optP (atI xs k) fun v => Q v H
      | _ => False)
    | some (.dic kvs) => isKey i = true ∧ optP (dget kvs i) fun v => Q v H
    | _ => False)
  | .tup xs => (match i with
    | .int k => optP (atI xs k) fun v => Q v H
    | _ => False)
  | .cl xs => (match i with
    | .int k => optP (atI xs k) fun v => Q v H
    | _ => False)
  | _ => False

/-! ### code -/
/-- the functions and the methods of the language that are known here -/
inductive B where
  | len | isin | max | min | all | any | sum | list | tuple | dict | str | int | sorted | set | repr
  deriving DecidableEq
inductive M where
  | append | pop | join | split | startswith | partition | strip | items | values | index | clear | setdefault | update
  deriving DecidableEq
inductive C where
  | nil | cons (a b : C)
  | var (i : Nat) | con (d : D) | glb (x : Str)
  | bin (op : Operator) (a b : C) | usub (a : C)
  | cmp (op : CmpOp) (a b : C) | chn (o1 o2 : CmpOp) (a b c : C)
  | and_ (a b : C) | or_ (a b : C) | not_ (a : C) | ite (c a b : C)
  | tup (es : C) | lst (es : C) | dic0
  | idx (a i : C) | slc (a lo hi : C)
  | call (f : Str) (es : C) | bc (b : B) (es : C)
  | mth (o : C) (m : Str) (es : C) | bm (o : C) (m : M) (es : C)
  | fld (o : C) (f : Str) | mk (c : Str) (es : C)
  | lc (own : List Nat) (tg it cond elt : C)
  | seqI (e : C) | rng1I (a : C) | rng2I (a b : C) | enumI (e : C) | itemsI (e : C) | zipI (a b : C)
inductive CS where
  | skip | seq (a b : CS)
  | asg (t e : C) | aug (i : Nat) (op : Operator) (e : C) | exp (e : C) | ret (e : C) | retN
  | iff (c : C) (a b : CS) | whl (c : C) (b : CS) | forr (t it : C) (b : CS) | brk | cnt
  | rai (c : Str) (es : C) | trye (b : CS) (cls : Str) (h : CS) | tryn (b : CS) (cls : Str) (nm : Nat) (h : CS)

abbrev DSp := List D → DH → DQ → DX → Prop
/-- what is known of the names -/
structure Gam where
  fn : Str → Option DSp
  mt : Str → Str → Option DSp
  ini : Str → Option (Option DSp)
  xc : Str → Bool
  gv : Str → Option D
  fl : Str → Str → Bool
  isa : Str → Str → Option Bool
  isx : Str → Str → Option Bool
def noX : DX := fun _ _ _ => False

/-! ### built-in functions -/
def allB : List D → Option Bool
  | [] => some true
  | .bl b :: r => (allB r).map (b && ·)
  | _ => none
def anyB : List D → Option Bool
  | [] => some false
  | .bl b :: r => (anyB r).map (b || ·)
  | _ => none
def intsD : List D → Option (List Int)
  | [] => some []
  | .int i :: r => (intsD r).map (i :: ·)
  | _ => none
def strsD : List D → Option (List (List Nat))
  | [] => some []
  | .str i :: r => (strsD r).map (i :: ·)
  | _ => none
def maxI : Int → List Int → Int
  | m, [] => m
  | m, x :: r => maxI (if x > m then x else m) r
def minI : Int → List Int → Int
  | m, [] => m
  | m, x :: r => minI (if x < m then x else m) r
def lenO (H : DH) : D → Option Nat
  | .str z => some z.length
  | .tup xs => some xs.length
  | .cl xs => some xs.length
  | .ref a => (match H a with
    | some (.lst xs) => some xs.length
    | some (.dic xs) => some xs.length
    | _ => none)
  | _ => none
/-- the name of a value's type, the class of an instance -/
def tyO (H : DH) : D → Option (String ⊕ Str)
  | .non => some (.inl "NoneType")
  | .bl _ => some (.inl "bool")
  | .int _ => some (.inl "int")
  | .str _ => some (.inl "str")
  | .tup _ => some (.inl "tuple")
  | .cl _ => some (.inl "list")
  | .ref a => (match H a with
    | some (.lst _) => some (.inl "list")
    | some (.dic _) => some (.inl "dict")
    | some (.ins c _) => some (.inr c)
    | none => none)
  | _ => none
def isaB (a b : String) : Option Bool := if b = "str" ∨ b = "int" ∨ b = "bool" ∨ b = "list" ∨ b = "tuple" ∨ b = "dict" then some (decide (a = b) || (decide (a = "bool") && decide (b = "int"))) else none
def isinO (G : Gam) (H : DH) (x c : D) : Option Bool := match tyO H x, c with
  | some (.inl a), .ty b => isaB a b
  | some (.inr a), .kls b => G.isa a b
  | _, _ => none
def biO (G : Gam) (b : B) (es : List D) (H : DH) (Q : DQ) : Prop := match b with
  | .len => (match es with
    | [x] => optP (lenO H x) fun n => n ≤ sizeLine ∧ Q (.int n) H
    | _ => False)
  | .isin => (match es with
    | [x, c] => optP (isinO G H x c) fun b => Q (.bl b) H
    | _ => False)
  | .max => (match es with
    | [.int i, .int j] => Q (.int (if j > i then j else i)) H
    | [x] => optP ((lsAt H x).bind intsD) fun l => (match l with
      | [] => False
      | i :: r => Q (.int (maxI i r)) H)
    | _ => False)
  | .min => (match es with
    | [.int i, .int j] => Q (.int (if j < i then j else i)) H
    | [x] => optP ((lsAt H x).bind intsD) fun l => (match l with
      | [] => False
      | i :: r => Q (.int (minI i r)) H)
    | _ => False)
  | .all => (match es with
    | [x] => optP ((lsAt H x).bind allB) fun b => Q (.bl b) H
    | _ => False)
  | .any => (match es with
    | [x] => optP ((lsAt H x).bind anyB) fun b => Q (.bl b) H
    | _ => False)
  | .sum => (match es with
    | [x] => optP ((lsAt H x).bind intsD) fun l => Q (.int l.sum) H
    | _ => False)
  | .list => (match es with
    | [x] => optP (sqAt H x) fun l => new H (.lst l) Q
    | _ => False)
  | .tuple => (match es with
    | [x] => optP (sqAt H x) fun l => Q (.tup l) H
    | _ => False)
  | .str => (match es with
    | [.int i] => i.natAbs.log2 < 1920 ∧ 0 ≤ i ∧ Q (.str (TL.numL i.toNat)) H
    | _ => False)
  | .int => (match es with
    | [.int i] => Q (.int i) H
    | [.bl b] => Q (.int (if b then 1 else 0)) H
    | _ => False)
  | _ => False
/-! ### methods of the language's own types -/
def isL (H : DH) : D → Bool
  | .ref a => (match H a with
    | some (.lst _) => true
    | _ => false)
  | _ => false
def isDi (H : DH) : D → Bool
  | .ref a => (match H a with
    | some (.dic _) => true
    | _ => false)
  | _ => false
def isS : D → Bool
  | .str _ => true
  | _ => false
def bmT (m : M) (x : D) (H : DH) : Bool := match m with
  | .append => isL H x
  | .pop => isL H x || isDi H x
  | .clear => isL H x
  | .index => isL H x
  | .join => isS x
  | .split => isS x
  | .startswith => isS x
  | .partition => isS x
  | .strip => isS x
  | _ => isDi H x
def bmO (m : M) (x : D) (es : List D) (H : DH) (Q : DQ) : Prop := match m with
  | .append => (match x, es with
    | .ref a, [v] => (match H a with
      | some (.lst xs) => xs.length < sizeLine ∧ Q .non (ud H a (.lst (xs ++ [v])))
      | _ => False)
    | _, _ => False)
  | .join => (match x, es with
    | .str s, [l] => optP ((sqAt H l).bind strsD) fun ys => (ys.map (·.length)).sum + ys.length * s.length ≤ 16777216 ∧ Q (.str (TL.joinL s ys)) H
    | _, _ => False)
  | _ => False

/-! ### what is walked, stores -/
/-- the items, what must stay while it is walked -/
abbrev DI := DS → DH → (List D → (DH → Prop) → DH → Prop) → DX → Prop
def seqO (x : D) (H : DH) (R : List D → (DH → Prop) → DH → Prop) : Prop := match x with
  | .tup xs => R xs (fun _ => True) H
  | .cl xs => R xs (fun _ => True) H
  | .str z => z.length ≤ sizeLine ∧ R (z.map fun c => .str [c]) (fun _ => True) H
  | .ref a => (match H a with
    | some (.lst xs) => R xs (fun H' => H' a = some (.lst xs)) H
    | _ => False)
  | _ => False
def enumL : Nat → List D → List D
  | _, [] => []
  | n, x :: r => .tup [.int n, x] :: enumL (n + 1) r
def rngL (lo : Int) : Nat → List D
  | 0 => []
  | n + 1 => .int lo :: rngL (lo + 1) n
def rng1O (x : D) (H : DH) (R : List D → (DH → Prop) → DH → Prop) : Prop := match x with
  | .int j => (-(2 ^ 62) ≤ j ∧ j < 2 ^ 62) ∧ R (rngL 0 j.toNat) (fun _ => True) H
  | _ => False
def rng2O (x y : D) (H : DH) (R : List D → (DH → Prop) → DH → Prop) : Prop := match x, y with
  | .int i, .int j => (-(2 ^ 62) ≤ i ∧ i < 2 ^ 62 ∧ -(2 ^ 62) ≤ j ∧ j < 2 ^ 62) ∧ R (rngL i (j - i).toNat) (fun _ => True) H
  | _, _ => False
def enumO (x : D) (H : DH) (R : List D → (DH → Prop) → DH → Prop) : Prop := match x with
  | .cl xs => R (enumL 0 xs) (fun _ => True) H
  | .ref a => (match H a with
    | some (.lst xs) => R (enumL 0 xs) (fun H' => H' a = some (.lst xs)) H
    | _ => False)
  | _ => False
/-- [elt for tg in ds if cond] -/
def lcGo (keep : DH → Prop) (tg : D → DS → DH → (DS → DH → Prop) → Prop) (tc : DTT) (te : DTE) (p : Addr) (δ : DS) (Q : DH → Prop) : List D → List D → DH → Prop
  | [], acc, H => keep H ∧ H p = some (.lst acc) ∧ Q H
  | d :: ds, acc, H => keep H ∧ tg d δ H fun δ1 H1 => tc δ1 H1 (fun b H2 => match b with
    | true => te δ1 H2 (fun y H3 => H3 p = some (.lst acc) ∧ acc.length < sizeLine ∧ lcGo keep tg tc te p δ Q ds (acc ++ [y]) (ud H3 p (.lst (acc ++ [y])))) noX
    | false => lcGo keep tg tc te p δ Q ds acc H2) noX
def wipeD (δ : DS) : List Nat → DS
  | [] => δ
  | v :: vs => (wipeD δ vs).set v none
def setO (o i v : D) (H : DH) (Q : DH → Prop) : Prop := match o with
  | .ref a => (match H a with
    | some (.lst xs) => (match i with
      | .int k => optP (ixN xs.length k) fun j => Q (ud H a (.lst (xs.set j v)))
      | _ => False)
    | some (.dic kvs) => isKey i = true ∧ kvs.length < sizeLine ∧ Q (ud H a (.dic (dput kvs i v)))
    | _ => False)
  | _ => False
def fput (fs : List (Str × D)) (f : Str) (v : D) : List (Str × D) := match fs with
  | [] => [(f, v)]
  | (g, x) :: r => if g = f then (g, v) :: r else (g, x) :: fput r f v
/-- an instance's class, its field -/
def insC (H : DH) : D → Option Str
  | .ref a => (match H a with
    | some (.ins c _) => some c
    | _ => none)
  | _ => none
def fldO (G : Gam) (H : DH) (x : D) (f : Str) : Option D := match x with
  | .ref a => (match H a with
    | some (.ins c fs) => if G.fl c f then fs.lookup f else none
    | _ => none)
  | _ => none
def setF (x : D) (f : Str) (v : D) (H : DH) (Q : DH → Prop) : Prop := match x with
  | .ref a => (match H a with
    | some (.ins c fs) => Q (ud H a (.ins c (fput fs f v)))
    | _ => False)
  | _ => False
def clen : C → Nat
  | .cons _ b => clen b + 1
  | _ => 0
/-- op= -/
def augO (op : Operator) (x y : D) (H : DH) (Q : DQ) : Prop := match op with
  | .Add => (match x, y with
    | .int i, .int j => Q (.int (i + j)) H
    | .str a, .str b => a.length + b.length ≤ sizeLine ∧ Q (.str (a ++ b)) H
    | _, _ => False)
  | .Sub => (match x, y with
    | .int i, .int j => Q (.int (i - j)) H
    | _, _ => False)
  | _ => False
def partI (d : D) : Option (Option Int) := match d with
  | .int i => some (some i)
  | _ => none
mutual
def wE (G : Gam) : C → DTE
  | .var i, δ, H, Q, X => (match δ[i]? with
    | some (some v) => Q v H
    | _ => False)
  | .con d, δ, H, Q, X => Q d H
  | .glb x, δ, H, Q, X => optP (G.gv x) fun v => Q v H
  | .bin op a b, δ, H, Q, X => wE G a δ H (fun x H1 => wE G b δ H1 (fun y H2 => binO op x y H2 Q) X) X
  | .usub a, δ, H, Q, X => wE G a δ H (fun x H1 => match x with
    | .int i => Q (.int (-i)) H1
    | _ => False) X
  | .cmp op a b, δ, H, Q, X => wE G a δ H (fun x H1 => wE G b δ H1 (fun y H2 => optP (cmpO op H2 x y) fun r => Q (.bl r) H2) X) X
  | .chn o1 o2 a b c, δ, H, Q, X => wE G a δ H (fun x H1 => wE G b δ H1 (fun y H2 => optP (cmpO o1 H2 x y) fun r => match r with
    | false => Q (.bl false) H2
    | true => wE G c δ H2 (fun z H3 => optP (cmpO o2 H3 y z) fun r => Q (.bl r) H3) X) X) X
  | .and_ a b, δ, H, Q, X => wE G a δ H (fun x H1 => optP (tru H1 x) fun r => match r with
    | true => wE G b δ H1 Q X
    | false => Q x H1) X
  | .or_ a b, δ, H, Q, X => wE G a δ H (fun x H1 => optP (tru H1 x) fun r => match r with
    | true => Q x H1
    | false => wE G b δ H1 Q X) X
  | .not_ a, δ, H, Q, X => wE G a δ H (fun x H1 => optP (tru H1 x) fun r => Q (.bl (!r)) H1) X
  | .ite c a b, δ, H, Q, X => wT G c δ H (fun r H1 => match r with
    | true => wE G a δ H1 Q X
    | false => wE G b δ H1 Q X) X
  | .tup es, δ, H, Q, X => wA G es δ H (fun ds H1 => ds.length ≤ sizeLine ∧ Q (.tup ds) H1) X
  | .lst es, δ, H, Q, X => wA G es δ H (fun ds H1 => ds.length ≤ sizeLine ∧ new H1 (.lst ds) Q) X
  | .dic0, δ, H, Q, X => new H (.dic []) Q
  | .idx a i, δ, H, Q, X => wE G a δ H (fun x H1 => wE G i δ H1 (fun y H2 => idxO x y H2 Q) X) X
  | .slc a lo hi, δ, H, Q, X => wE G a δ H (fun x H1 => wP G lo δ H1 (fun l H2 => wP G hi δ H2 (fun h H3 => slcO x l h H3 Q) X) X) X
  | .call f es, δ, H, Q, X => wA G es δ H (fun ds H1 => optP (G.fn f) fun sp => sp ds H1 Q X) X
  | .bc b es, δ, H, Q, X => wA G es δ H (fun ds H1 => biO G b ds H1 Q) X
  | .bm o m es, δ, H, Q, X => wE G o δ H (fun x H1 => bmT m x H1 = true ∧ wA G es δ H1 (fun ds H2 => bmO m x ds H2 Q) X) X
  | .mth o m es, δ, H, Q, X => wE G o δ H (fun x H1 => optP (insC H1 x) fun c => wA G es δ H1 (fun ds H2 => optP (G.mt c m) fun sp => sp (x :: ds) H2 Q X) X) X
  | .fld o f, δ, H, Q, X => wE G o δ H (fun x H1 => optP (fldO G H1 x f) fun v => Q v H1) X
  | .mk c es, δ, H, Q, X => wA G es δ H (fun ds H1 => optP (G.ini c) fun i => match i with
    | none => ds = [] ∧ new H1 (.ins c []) Q
    | some sp => ∀ p, H1 p = none → sp (.ref p :: ds) (ud H1 p (.ins c [])) (fun r H2 => r = .non ∧ Q (.ref p) H2) X) X
  | .lc own tg it cond elt, δ, H, Q, X => wI G it δ H (fun ds keep H1 => ∀ p, H1 p = none → lcGo keep (wG G tg) (wC G cond) (wE G elt) p (wipeD δ own) (fun H2 => Q (.ref p) H2) ds [] (ud H1 p (.lst []))) X
  | _, _, _, _, _ => False
def wA (G : Gam) : C → DTA
  | .nil, δ, H, Q, X => Q [] H
  | .cons a b, δ, H, Q, X => wE G a δ H (fun x H1 => wA G b δ H1 (fun xs H2 => Q (x :: xs) H2) X) X
  | _, _, _, _, _ => False
/-- a test -/
def wT (G : Gam) : C → DTT
  | .and_ a b, δ, H, Q, X => wT G a δ H (fun r H1 => match r with
    | true => wT G b δ H1 Q X
    | false => Q false H1) X
  | .or_ a b, δ, H, Q, X => wT G a δ H (fun r H1 => match r with
    | true => Q true H1
    | false => wT G b δ H1 Q X) X
  | .not_ a, δ, H, Q, X => wT G a δ H (fun r H1 => Q (!r) H1) X
  | .ite c a b, δ, H, Q, X => False
  | .cmp op a b, δ, H, Q, X => wE G a δ H (fun x H1 => wE G b δ H1 (fun y H2 => optP (cmpO op H2 x y) fun r => Q r H2) X) X
  | .chn o1 o2 a b c, δ, H, Q, X => wE G a δ H (fun x H1 => wE G b δ H1 (fun y H2 => optP (cmpO o1 H2 x y) fun r => match r with
    | false => Q false H2
    | true => wE G c δ H2 (fun z H3 => optP (cmpO o2 H3 y z) fun r => Q r H3) X) X) X
  | .var i, δ, H, Q, X => (match δ[i]? with
    | some (some v) => optP (tru H v) fun r => Q r H
    | _ => False)
  | .con d, δ, H, Q, X => optP (tru H d) fun r => Q r H
  | .call f es, δ, H, Q, X => wA G es δ H (fun ds H1 => optP (G.fn f) fun sp => sp ds H1 (fun x H1 => optP (tru H1 x) fun r => Q r H1) X) X
  | .bc b es, δ, H, Q, X => wA G es δ H (fun ds H1 => biO G b ds H1 (fun x H1 => optP (tru H1 x) fun r => Q r H1)) X
  | .mth o m es, δ, H, Q, X => wE G o δ H (fun x H1 => optP (insC H1 x) fun c => wA G es δ H1 (fun ds H2 => optP (G.mt c m) fun sp => sp (x :: ds) H2 (fun x H1 => optP (tru H1 x) fun r => Q r H1) X) X) X
  | .bm o m es, δ, H, Q, X => wE G o δ H (fun x H1 => bmT m x H1 = true ∧ wA G es δ H1 (fun ds H2 => bmO m x ds H2 (fun x H1 => optP (tru H1 x) fun r => Q r H1)) X) X
  | .idx a i, δ, H, Q, X => wE G a δ H (fun x H1 => wE G i δ H1 (fun y H2 => idxO x y H2 (fun x H1 => optP (tru H1 x) fun r => Q r H1)) X) X
  | .fld o f, δ, H, Q, X => wE G o δ H (fun x H1 => optP (fldO G H1 x f) fun v => optP (tru H1 v) fun r => Q r H1) X
  | _, _, _, _, _ => False
/-- a comprehension's condition -/
def wC (G : Gam) : C → DTT
  | .nil, δ, H, Q, X => Q true H
  | .cons c _, δ, H, Q, X => wT G c δ H Q X
  | _, _, _, _, _ => False
/-- a slice's part -/
def wP (G : Gam) : C → DS → DH → (Option Int → DH → Prop) → DX → Prop
  | .nil, δ, H, Q, X => Q none H
  | .cons c _, δ, H, Q, X => wE G c δ H (fun x H1 => optP (partI x) fun i => Q i H1) X
  | _, _, _, _, _ => False
/-- what is walked -/
def wI (G : Gam) : C → DI
  | .seqI e, δ, H, R, X => wE G e δ H (fun x H1 => seqO x H1 R) X
  | .rng1I a, δ, H, R, X => wE G a δ H (fun x H1 => rng1O x H1 R) X
  | .rng2I a b, δ, H, R, X => wE G a δ H (fun x H1 => wE G b δ H1 (fun y H2 => rng2O x y H2 R) X) X
  | .enumI e, δ, H, R, X => wE G e δ H (fun x H1 => enumO x H1 R) X
  | _, _, _, _, _ => False
/-- a store -/
def wG (G : Gam) : C → D → DS → DH → (DS → DH → Prop) → Prop
  | .var i, v, δ, H, Q => Q (δ.set i (some v)) H
  | .tup es, v, δ, H, Q => (match v with
    | .tup vs => vs.length = clen es ∧ wGs G es vs δ H Q
    | _ => False)
  | .idx o i, v, δ, H, Q => wE G o δ H (fun x H1 => wE G i δ H1 (fun y H2 => setO x y v H2 fun H3 => Q δ H3) noX) noX
  | .fld o f, v, δ, H, Q => wE G o δ H (fun x H1 => setF x f v H1 fun H3 => Q δ H3) noX
  | _, _, _, _, _ => False
def wGs (G : Gam) : C → List D → DS → DH → (DS → DH → Prop) → Prop
  | .nil, vs, δ, H, Q => vs = [] ∧ Q δ H
  | .cons a b, vs, δ, H, Q => (match vs with
    | v :: r => wG G a v δ H fun δ1 H1 => wGs G b r δ1 H1 Q
    | [] => False)
  | _, _, _, _, _ => False
end
def forGo (keep : DH → Prop) (tg : D → DS → DH → (DS → DH → Prop) → Prop) (tb : DTS) (E : DE) : List D → DS → DH → Prop
  | [], δ, H => keep H ∧ E.nx δ H
  | d :: ds, δ, H => keep H ∧ tg d δ H fun δ1 H1 => tb { E with nx := forGo keep tg tb E ds, ct := forGo keep tg tb E ds, bk := E.nx } δ1 H1
def wS (G : Gam) : CS → DTS
  | .skip, E, δ, H => E.nx δ H
  | .seq a b, E, δ, H => wS G a { E with nx := fun δ1 H1 => wS G b E δ1 H1 } δ H
  | .asg t e, E, δ, H => wE G e δ H (fun v H1 => wG G t v δ H1 E.nx) (fun c fs H1 => E.ex c fs δ H1)
  | .aug i op e, E, δ, H => (match δ[i]? with
    | some (some v) => wE G e δ H (fun y H1 => augO op v y H1 fun z H2 => E.nx (δ.set i (some z)) H2) (fun c fs H1 => E.ex c fs δ H1)
    | _ => False)
  | .exp e, E, δ, H => wE G e δ H (fun _ H1 => E.nx δ H1) (fun c fs H1 => E.ex c fs δ H1)
  | .ret e, E, δ, H => wE G e δ H E.rt (fun c fs H1 => E.ex c fs δ H1)
  | .retN, E, δ, H => E.rt .non H
  | .iff c a b, E, δ, H => wT G c δ H (fun r H1 => match r with
    | true => wS G a E δ H1
    | false => wS G b E δ H1) (fun c fs H1 => E.ex c fs δ H1)
  | .whl c b, E, δ, H => ∃ W : Nat → DS → DH → Prop, (∃ m, W m δ H) ∧ ∀ m δ H, W m δ H → wT G c δ H (fun r H1 => match r with
    | true => wS G b { E with nx := fun δ2 H2 => ∃ m', m' < m ∧ W m' δ2 H2, ct := fun δ2 H2 => ∃ m', m' < m ∧ W m' δ2 H2, bk := E.nx } δ H1
    | false => E.nx δ H1) (fun c fs H1 => E.ex c fs δ H1)
  | .forr t it b, E, δ, H => wI G it δ H (fun ds keep H1 => forGo keep (wG G t) (wS G b) E ds δ H1) (fun c fs H1 => E.ex c fs δ H1)
  | .rai c es, E, δ, H => G.xc c = true ∧ wA G es δ H (fun _ H1 => E.ex c [] δ H1) (fun c fs H1 => E.ex c fs δ H1)
  | .trye b cls h, E, δ, H => wS G b { E with ex := fun c fs δ1 H1 => match G.isx c cls with
    | some true => wS G h E δ1 H1
    | some false => E.ex c fs δ1 H1
    | none => False } δ H
  | .brk, E, δ, H => E.bk δ H
  | .cnt, E, δ, H => E.ct δ H
  | _, _, _, _ => False
end CT

/-! CT3: operators keep what they say. -/
namespace CT
open PySem PySem.Spec PyProof.Rows L2

mutual
def py : D → PyData
  | .non => .none
  | .bl b => .bool b
  | .int i => .int i
  | .str x => .str (S x)
  | .tup xs => .tuple (pyL xs)
  | .cl xs => .list (pyL xs)
  | _ => .none
def pyL : List D → List PyData
  | [] => []
  | x :: xs => py x :: pyL xs
end
theorem S_list (x : List Nat) : (S x).cps.toList = x := by simp [S]
theorem S_beq (x y : List Nat) : (S x == S y) = (x == y) := by
  by_cases h : x = y
  · subst h; simp
  · have h2 : S x ≠ S y := fun e => h (S_inj e)
    rw [beq_eq_false_iff_ne.mpr h, beq_eq_false_iff_ne.mpr h2]
mutual
theorem eqv_py : ∀ (x y : D), pur x = true → pur y = true → PyData.eqv (py x) (py y) = eqD x y
  | .non, y, h, g => by cases y <;> simp [py, PyData.eqv, eqD, pur] at g ⊢
  | .bl b, y, h, g => by cases y <;> simp [py, PyData.eqv, eqD, pur] at g ⊢
  | .int b, y, h, g => by cases y <;> simp [py, PyData.eqv, eqD, pur] at g ⊢
  | .str b, y, h, g => by cases y <;> simp [py, PyData.eqv, eqD, pur, S_beq] at g ⊢
  | .tup xs, y, h, g => by
    cases y with
    | tup ys =>
      simp only [pur] at h g
      simp only [py, PyData.eqv, eqD]
      exact eqv_pyL xs ys h g
    | _ => simp [py, PyData.eqv, eqD, pur] at g ⊢
  | .cl xs, y, h, g => by
    cases y with
    | cl ys =>
      simp only [pur] at h g
      simp only [py, PyData.eqv, eqD]
      exact eqv_pyL xs ys h g
    | _ => simp [py, PyData.eqv, eqD, pur] at g ⊢
  | .ref _, y, h, g => by simp [pur] at h
  | .ty _, y, h, g => by simp [pur] at h
  | .kls _, y, h, g => by simp [pur] at h
theorem eqv_pyL : ∀ (xs ys : List D), purL xs = true → purL ys = true → PyData.eqvAll (pyL xs) (pyL ys) = eqL xs ys
  | [], [], h, g => by simp [pyL, PyData.eqvAll, eqL]
  | [], _ :: _, h, g => by simp [pyL, PyData.eqvAll, eqL]
  | _ :: _, [], h, g => by simp [pyL, PyData.eqvAll, eqL]
  | x :: xs, y :: ys, h, g => by
    simp only [purL, Bool.and_eq_true] at h g
    simp only [pyL, PyData.eqvAll, eqL]
    rw [eqv_py x y h.1 g.1, eqv_pyL xs ys h.2 g.2]
end
mutual
theorem depth_py : ∀ (x : D), (py x).depth = (if pur x then dep x else (py x).depth)
  | .non => by simp [py, PyData.depth, dep, pur]
  | .bl _ => by simp [py, PyData.depth, dep, pur]
  | .int _ => by simp [py, PyData.depth, dep, pur]
  | .str _ => by simp [py, PyData.depth, dep, pur]
  | .tup xs => by
    split
    · rename_i h
      simp only [pur] at h
      simp only [py, PyData.depth, dep]
      rw [depth_pyL xs h]
    · rfl
  | .cl xs => by
    split
    · rename_i h
      simp only [pur] at h
      simp only [py, PyData.depth, dep]
      rw [depth_pyL xs h]
    · rfl
  | .ref _ => by simp [pur]
  | .ty _ => by simp [pur]
  | .kls _ => by simp [pur]
theorem depth_pyL : ∀ (xs : List D), purL xs = true → PyData.depthAll (pyL xs) = depL xs
  | [], _ => by simp [pyL, PyData.depthAll, depL]
  | x :: xs, h => by
    simp only [purL, Bool.and_eq_true] at h
    simp only [pyL, PyData.depthAll, depL]
    rw [depth_py x, if_pos h.1, depth_pyL xs h.2]
end
theorem asc_ok {x : List Nat} (h : asc x) : PyData.strOk (S x) = true := by
  unfold PyData.strOk S
  rw [Array.all_eq_true']
  intro c hc
  have h2 := h c (by simpa using hc)
  simp; omega
mutual
theorem dp_of {K : PySem.W.Frag} {H : Hp} : ∀ (x : D) (v : V), pur x = true → Im K H x v → Dp K H v (py x) ∧ (py x).canLay0 = true
  | .non, v, h, i => by simp only [Im] at i; subst i; exact ⟨.non, by simp [py, PyData.canLay0]⟩
  | .bl _, v, h, i => by simp only [Im] at i; subst i; exact ⟨.bl _, by simp [py, PyData.canLay0]⟩
  | .int _, v, h, i => by simp only [Im] at i; subst i; exact ⟨.int _, by simp [py, PyData.canLay0]⟩
  | .str _, v, h, i => by
    simp only [Im] at i
    obtain ⟨i, a⟩ := i
    subst i
    exact ⟨.str _, by simp only [py, PyData.canLay0]; exact asc_ok a⟩
  | .tup xs, v, h, i => by
    simp only [Im] at i
    simp only [pur] at h
    obtain ⟨a, vs, rfl, h1, h2⟩ := i
    obtain ⟨q1, q2⟩ := dp_ofL xs vs h h2
    exact ⟨.tup h1 q1, by simp only [py, PyData.canLay0]; exact q2⟩
  | .cl xs, v, h, i => by
    simp only [Im] at i
    simp only [pur] at h
    obtain ⟨a, vs, rfl, h1, h2⟩ := i
    obtain ⟨q1, q2⟩ := dp_ofL xs vs h h2
    exact ⟨.lst h1.sq q1, by simp only [py, PyData.canLay0]; exact q2⟩
  | .ref _, v, h, i => by simp [pur] at h
  | .ty _, v, h, i => by simp [pur] at h
  | .kls _, v, h, i => by simp [pur] at h
theorem dp_ofL {K : PySem.W.Frag} {H : Hp} : ∀ (xs : List D) (vs : List V), purL xs = true → ImL K H xs vs → DpAll K H vs (pyL xs) ∧ PyData.canLayAll0 (pyL xs) = true
  | [], vs, h, i => by simp only [ImL] at i; subst i; exact ⟨.nil, by simp [pyL, PyData.canLayAll0]⟩
  | x :: xs, vs, h, i => by
    simp only [ImL] at i
    simp only [purL, Bool.and_eq_true] at h
    obtain ⟨w, ws, rfl, i1, i2⟩ := i
    obtain ⟨q1, q2⟩ := dp_of x w h.1 i1
    obtain ⟨q3, q4⟩ := dp_ofL xs ws h.2 i2
    exact ⟨.cons q1 q3, by simp only [pyL, PyData.canLayAll0, Bool.and_eq_true]; exact ⟨q2, q4⟩⟩
end
theorem shaped_of {K : PySem.W.Frag} {H : Hp} {x : D} {v : V} (h : pur x = true) (d : dep x ≤ 60) (i : Im K H x v) : SeqAt.shaped (py x) = true := by
  unfold SeqAt.shaped
  rw [(dp_of x v h i).2, depth_py x, if_pos h]
  simp; omega
/-- a list at hand -/
theorem lsAt_of {K : PySem.W.Frag} {H : Hp} {Hd : DH} {x : D} {v : V} {xs : List D} (hr : HR K Hd H) (i : Im K H x v) (e : lsAt Hd x = some xs) : ∃ a vs, v = .ref a ∧ SqL K H a vs ∧ ImL K H xs vs := by
  cases x with
  | cl ys =>
    simp only [lsAt, Option.some.injEq] at e
    subst e
    simp only [Im] at i
    obtain ⟨a, vs, rfl, h1, h2⟩ := i
    exact ⟨a, vs, rfl, h1.sq, h2⟩
  | ref a =>
    simp only [lsAt] at e
    split at e
    · rename_i ys q
      cases e
      simp only [Im] at i
      obtain ⟨vs, e2, r⟩ := hr a _ q
      exact ⟨a, vs, i, SqL.of e2, r⟩
    · cases e
  | _ => simp [lsAt] at e
theorem sqAt_of {K : PySem.W.Frag} {H : Hp} {Hd : DH} {x : D} {v : V} {xs : List D} (hr : HR K Hd H) (i : Im K H x v) (e : sqAt Hd x = some xs) : ∃ a vs, v = .ref a ∧ (SqL K H a vs ∨ SqT K H a vs) ∧ ImL K H xs vs := by
  cases x with
  | tup ys =>
    simp only [sqAt, Option.some.injEq] at e
    subst e
    simp only [Im] at i
    obtain ⟨a, vs, rfl, h1, h2⟩ := i
    exact ⟨a, vs, rfl, .inr h1, h2⟩
  | _ =>
    obtain ⟨a, vs, h1, h2, h3⟩ := lsAt_of hr i (by simpa [sqAt] using e)
    exact ⟨a, vs, h1, .inl h2, h3⟩
theorem dpl_of {K : PySem.W.Frag} {H : Hp} {a : Addr} {vs : List V} {xs : List D} (h : SqL K H a vs) (p : purL xs = true) (d : depL xs ≤ 60) (i : ImL K H xs vs) : Dp K H (.ref a) (.list (pyL xs)) ∧ SeqAt.shaped (.list (pyL xs)) = true := by
  obtain ⟨q1, q2⟩ := dp_ofL xs vs p i
  refine ⟨.lst h q1, ?_⟩
  unfold SeqAt.shaped
  simp only [PyData.canLay0, PyData.depth, q2, depth_pyL xs p, Bool.true_and]
  simp; omega

section
variable {X : Cx}
/-- a comparison that tells b -/
def rB (K : PySem.W.Frag) (f : DH → D → D → Option Bool) : R2 := fun x y H Q => ∃ dx dy Hd b, HR K Hd H ∧ Im K H dx x ∧ Im K H dy y ∧ f Hd dx dy = some b ∧ Q (.bl b) H
theorem eqO_ok (hu : X.A.units + 65 < cLine) {H : Hp} {Hd : DH} {dx dy : D} {x y : V} {b : Bool} (hr : HR X.K Hd H) (ix : Im X.K H dx x) (iy : Im X.K H dy y) (e : eqO Hd dx dy = some b) :
    ∃ d e, Dp X.K H x d ∧ Dp X.K H y e ∧ SeqAt.shaped d = true ∧ SeqAt.shaped e = true ∧ PyData.eqv d e = b := by
  unfold eqO at e
  split at e
  · rename_i xs ys e1 e2
    split at e
    · rename_i c
      simp only [Bool.and_eq_true, decide_eq_true_eq] at c
      cases e
      obtain ⟨a1, v1, rfl, s1, i1⟩ := lsAt_of hr ix e1
      obtain ⟨a2, v2, rfl, s2, i2⟩ := lsAt_of hr iy e2
      obtain ⟨p1, p2⟩ := dpl_of s1 c.1.1.1 c.1.2 i1
      obtain ⟨p3, p4⟩ := dpl_of s2 c.1.1.2 c.2 i2
      exact ⟨_, _, p1, p3, p2, p4, by simp only [PyData.eqv]; exact eqv_pyL xs ys c.1.1.1 c.1.1.2⟩
    · cases e
  · split at e
    · rename_i c
      simp only [Bool.and_eq_true, decide_eq_true_eq] at c
      cases e
      exact ⟨_, _, (dp_of _ _ c.1.1.1 ix).1, (dp_of _ _ c.1.1.2 iy).1, shaped_of c.1.1.1 c.1.2 ix, shaped_of c.1.1.2 c.2 iy, eqv_py _ _ c.1.1.1 c.1.1.2⟩
    · cases e
theorem oc_eq (hu : X.A.units + 65 < cLine) : OpR X (compareOp .Eq) (rB X.K (cmpO .Eq)) := by
  intro pins s σ H x y v u Q I rx ry h
  obtain ⟨dx, dy, Hd, b, hr, ix, iy, e, q⟩ := h
  obtain ⟨d, e, h1, h2, h3, h4, h5⟩ := eqO_ok hu hr ix iy e
  exact op_eqD (by omega) pins s σ H x y v u Q I rx ry ⟨d, e, h1, h2, h3, h4, by rw [h5]; exact q⟩
theorem oc_ne (hu : X.A.units + 65 < cLine) : OpR X (compareOp .NotEq) (rB X.K (cmpO .NotEq)) := by
  intro pins s σ H x y v u Q I rx ry h
  obtain ⟨dx, dy, Hd, b, hr, ix, iy, e, q⟩ := h
  simp only [cmpO, Option.map_eq_some_iff] at e
  obtain ⟨c, e, rfl⟩ := e
  obtain ⟨d, e, h1, h2, h3, h4, h5⟩ := eqO_ok hu hr ix iy e
  exact op_neD (by omega) pins s σ H x y v u Q I rx ry ⟨d, e, h1, h2, h3, h4, by rw [h5]; exact q⟩
theorem oc_int {op : CmpOp} {p : Int → Int → Bool} (ho : OpR X (compareOp op) (rI0 fun i j => .bl (p i j))) (hc : ∀ Hd x y b, cmpO op Hd x y = some b → ∃ i j, x = .int i ∧ y = .int j ∧ b = p i j) : OpR X (compareOp op) (rB X.K (cmpO op)) := by
  intro pins s σ H x y v u Q I rx ry h
  obtain ⟨dx, dy, Hd, b, hr, ix, iy, e, q⟩ := h
  obtain ⟨i, j, rfl, rfl, rfl⟩ := hc _ _ _ _ e
  simp only [Im] at ix iy
  exact ho pins s σ H x y v u Q I rx ry ⟨i, j, ix, iy, q⟩
theorem oc_lt : OpR X (compareOp .Lt) (rB X.K (cmpO .Lt)) := oc_int (p := fun i j => decide (i < j)) op_lt (fun Hd x y b e => by
  cases x <;> cases y <;> simp [cmpO] at e
  exact ⟨_, _, rfl, rfl, e.symm⟩)
theorem oc_le : OpR X (compareOp .LtE) (rB X.K (cmpO .LtE)) := oc_int (p := fun i j => decide (i ≤ j)) op_le (fun Hd x y b e => by
  cases x <;> cases y <;> simp [cmpO] at e
  exact ⟨_, _, rfl, rfl, e.symm⟩)
theorem oc_gt : OpR X (compareOp .Gt) (rB X.K (cmpO .Gt)) := oc_int (p := fun i j => decide (j < i)) op_gt (fun Hd x y b e => by
  cases x <;> cases y <;> simp [cmpO] at e
  exact ⟨_, _, rfl, rfl, e.symm⟩)
theorem oc_ge : OpR X (compareOp .GtE) (rB X.K (cmpO .GtE)) := oc_int (p := fun i j => decide (j ≤ i)) op_ge (fun Hd x y b e => by
  cases x <;> cases y <;> simp [cmpO] at e
  exact ⟨_, _, rfl, rfl, e.symm⟩)
theorem Im.non_iff {K : PySem.W.Frag} {H : Hp} {d : D} {v : V} (i : Im K H d v) : v = .non ↔ d = .non := by
  cases d with
  | tup xs => simp only [Im] at i; obtain ⟨a, vs, rfl, _⟩ := i; simp
  | cl xs => simp only [Im] at i; obtain ⟨a, vs, rfl, _⟩ := i; simp
  | str xs => simp only [Im] at i; obtain ⟨rfl, _⟩ := i; simp
  | _ => simp only [Im] at i; subst i; simp
def isNon : D → Bool
  | .non => true
  | _ => false
theorem isNon_iff {d : D} : isNon d = true ↔ d = .non := by cases d <;> simp [isNon]
theorem oc_is : OpR X (compareOp .Is) (rB X.K (cmpO .Is)) := by
  intro pins s σ H x y v u Q I rx ry h
  obtain ⟨dx, dy, Hd, b, hr, ix, iy, e, q⟩ := h
  have key : dy = .non ∧ b = isNon dx := by
    cases dy <;> cases dx <;> simp [cmpO, isNon] at e ⊢ <;> first | exact e | exact e.symm
  obtain ⟨rfl, rfl⟩ := key
  refine op_isN pins s σ H x y v u Q I rx ry ⟨iy.non_iff.mpr rfl, ?_⟩
  rw [show decide (x = .non) = isNon dx from by rw [Bool.eq_iff_iff, decide_eq_true_iff, isNon_iff]; exact ix.non_iff]
  exact q
theorem oc_isnot : OpR X (compareOp .IsNot) (rB X.K (cmpO .IsNot)) := by
  intro pins s σ H x y v u Q I rx ry h
  obtain ⟨dx, dy, Hd, b, hr, ix, iy, e, q⟩ := h
  have key : dy = .non ∧ b = !isNon dx := by
    cases dy <;> cases dx <;> simp [cmpO, isNon] at e ⊢ <;> first | exact e | exact e.symm
  obtain ⟨rfl, rfl⟩ := key
  refine op_notN pins s σ H x y v u Q I rx ry ⟨iy.non_iff.mpr rfl, ?_⟩
  rw [show decide (x = .non) = isNon dx from by rw [Bool.eq_iff_iff, decide_eq_true_iff, isNon_iff]; exact ix.non_iff]
  exact q
theorem keyEq {a b : D} {ka kb : Key} (ha : keyR a ka) (hb : keyR b kb) : eqD a b = decide (ka = kb) := by
  cases a with
  | int i => cases b with
    | int j =>
      simp only [keyR] at ha hb
      subst ha hb
      simp only [eqD]
      by_cases e : i = j
      · subst e; simp
      · have e2 : ¬ (Sum.inl i : Key) = Sum.inl j := fun z => e (Sum.inl.inj z)
        rw [beq_eq_false_iff_ne.mpr e, decide_eq_false e2]
    | str y =>
      simp only [keyR] at ha hb
      subst ha
      rw [hb.1]
      simp [eqD]
    | _ => simp [keyR] at hb
  | str x => cases b with
    | int j =>
      simp only [keyR] at ha hb
      subst hb
      rw [ha.1]
      simp [eqD]
    | str y =>
      simp only [keyR] at ha hb
      rw [ha.1, hb.1]
      simp only [eqD]
      by_cases e : x = y
      · subst e; simp
      · have e2 : ¬ (Sum.inr (S x) : Key) = Sum.inr (S y) := fun z => e (S_inj (Sum.inr.inj z))
        rw [beq_eq_false_iff_ne.mpr e, decide_eq_false e2]
    | _ => simp [keyR] at hb
  | _ => simp [keyR] at ha
def OpR2 {α β : Type} (r : α → β → Prop) : Option α → Option β → Prop
  | some a, some b => r a b
  | none, none => True
  | _, _ => False
theorem KvR.get {K : PySem.W.Frag} {H : Hp} {kvs : List (D × D)} {vs : List (Key × V)} (r : KvR K H kvs vs) {d : D} {k : Key} (hk : keyR d k) : OpR2 (Im K H) (dget kvs d) (valV vs k) := by
  induction r with
  | nil => exact True.intro
  | @cons a e ka v l l' ha hv _ ih =>
    have q := keyEq ha hk
    simp only [dget]
    by_cases c : ka = k
    · rw [decide_eq_true c] at q
      rw [if_pos q, valV_pos c]
      exact hv
    · rw [decide_eq_false c] at q
      rw [if_neg (by rw [q]; exact Bool.false_ne_true), valV_neg c]
      exact ih
theorem KvR.anyk {K : PySem.W.Frag} {H : Hp} {kvs : List (D × D)} {vs : List (Key × V)} (r : KvR K H kvs vs) {d : D} {k : Key} (hk : keyR d k) : kvs.any (fun p => eqD p.1 d) = vs.any (fun kv => decide (kv.1 = k)) := by
  induction r with
  | nil => rfl
  | @cons a e ka v l l' ha hv _ ih => simp only [List.any_cons]; rw [ih, keyEq ha hk]
theorem KvR.app {K : PySem.W.Frag} {H : Hp} {k1 k2 : List (D × D)} {v1 v2 : List (Key × V)} (r : KvR K H k1 v1) (q : KvR K H k2 v2) : KvR K H (k1 ++ k2) (v1 ++ v2) := by
  induction r with
  | nil => exact q
  | cons a b _ ih => exact .cons a b ih
theorem KvR.mapk {K : PySem.W.Frag} {H : Hp} {kvs : List (D × D)} {vs : List (Key × V)} (r : KvR K H kvs vs) {d e : D} {k : Key} {v : V} (hk : keyR d k) (hv : Im K H e v) :
    KvR K H (kvs.map (fun p => if eqD p.1 d then (p.1, e) else p)) (vs.map fun kv => if kv.1 = k then (kv.1, v) else kv) := by
  induction r with
  | nil => exact .nil
  | @cons a x ka w l l' ha hw _ ih =>
    simp only [List.map_cons]
    have q := keyEq ha hk
    by_cases c : ka = k
    · rw [decide_eq_true c] at q
      rw [if_pos q, if_pos c]
      exact .cons ha hv ih
    · rw [decide_eq_false c] at q
      rw [if_neg (by rw [q]; exact Bool.false_ne_true), if_neg c]
      exact .cons ha hw ih
theorem KvR.put {K : PySem.W.Frag} {H : Hp} {kvs : List (D × D)} {vs : List (Key × V)} (r : KvR K H kvs vs) {d e : D} {k : Key} {v : V} (hk : keyR d k) (hv : Im K H e v) : KvR K H (dput kvs d e) (putK vs k v) := by
  unfold dput putK
  rw [r.anyk hk]
  split
  · exact r.mapk hk hv
  · exact r.app (.cons hk hv .nil)
theorem KvR.len {K : PySem.W.Frag} {H : Hp} {kvs : List (D × D)} {vs : List (Key × V)} (r : KvR K H kvs vs) : kvs.length = vs.length := by
  induction r with
  | nil => rfl
  | cons _ _ _ ih => simp [ih]
theorem keyR_of {K : PySem.W.Frag} {H : Hp} {d : D} {v : V} (i : Im K H d v) (h : isKey d = true) : ∃ k, keyR d k ∧ v = kV k := by
  cases d with
  | int j => simp only [Im] at i; exact ⟨.inl j, rfl, i⟩
  | str x => simp only [Im] at i; exact ⟨.inr (S x), ⟨rfl, i.2⟩, i.1⟩
  | _ => simp [isKey] at h
theorem inL_any (x : D) (ys : List D) (h : pur x = true) (g : purL ys = true) : ((pyL ys).any fun z => PyData.eqv z (py x)) = inL x ys := by
  induction ys with
  | nil => simp [pyL, inL]
  | cons y ys ih =>
    simp only [purL, Bool.and_eq_true] at g
    have e := ih g.2
    simp only [inL] at e ⊢
    simp only [pyL, List.any_cons]
    rw [e, eqv_py y x g.1 h]
end
section
variable {X : Cx}
theorem inD_of {K : PySem.W.Frag} {H : Hp} {dx : D} {x : V} {ys : List D} {vs : List V} {a : Addr} (hs : SqL K H a vs) (c : (pur dx && purL ys && decide (dep dx ≤ 60) && decide (depL ys ≤ 60)) = true) (ix : Im K H dx x) (iy : ImL K H ys vs) :
    ∃ d ds, Dp K H x d ∧ Dp K H (.ref a) (.list ds) ∧ SeqAt.shaped d = true ∧ SeqAt.shaped (.list ds) = true ∧ (ds.any fun z => PyData.eqv z d) = inL dx ys := by
  simp only [Bool.and_eq_true, decide_eq_true_eq] at c
  obtain ⟨p1, p2⟩ := dpl_of hs c.1.1.2 c.2 iy
  exact ⟨_, _, (dp_of _ _ c.1.1.1 ix).1, p1, shaped_of c.1.1.1 c.1.2 ix, p2, inL_any dx ys c.1.1.1 c.1.1.2⟩
theorem inT_reads {pins : List (Addr × Obj)} {s : Shared} {σ : L2.St} {H : Hp} {dx : D} {x : V} {v : Value} {ys : List D} {vs : List V} {a : Addr} (hu : X.A.units + 65 < cLine) (I : Inv X pins σ H s) (hs : SqT X.K H a vs) (c : (pur dx && purL ys && decide (dep dx ≤ 60) && decide (depL ys ≤ 60)) = true) (ix : Im X.K H dx x) (rx : RelV x v) (iy : ImL X.K H ys vs) :
    ∃ as bs, Reads s.heap (.ref a) (.tuple (pyL ys)) as ∧ Reads s.heap v (py dx) bs ∧ PyData.canLayAll0 (pyL ys) = true ∧ (py dx).canLay0 = true ∧ X.A.units + 1 + min (PyData.depthAll (pyL ys)) (py dx).depth < cLine ∧ ((pyL ys).any fun y => PyData.eqv y (py dx)) = inL dx ys := by
  simp only [Bool.and_eq_true, decide_eq_true_eq] at c
  obtain ⟨q1, q2⟩ := dp_ofL ys vs c.1.1.2 iy
  obtain ⟨q3, q4⟩ := dp_of dx x c.1.1.1 ix
  obtain ⟨as, r1⟩ := Dp.reads I (.tuple (pyL ys)) (.ref a) (.ref a) (.tup hs q1) rfl
  obtain ⟨bs, r2⟩ := Dp.reads I (py dx) x v q3 rx
  refine ⟨as, bs, r1, r2, q2, q4, ?_, inL_any dx ys c.1.1.1 c.1.1.2⟩
  rw [depth_pyL ys c.1.1.2]
  have := Nat.min_le_left (depL ys) (py dx).depth
  omega
theorem oc_in (hu : X.A.units + 65 < cLine) : OpR X (compareOp .In) (rB X.K (cmpO .In)) := by
  intro pins s σ H x y v u Q I rx ry h
  obtain ⟨dx, dy, Hd, b, hr, ix, iy, e, q⟩ := h
  replace e : inO Hd dx dy = some b := e
  cases dy with
  | str z =>
    simp only [inO] at e
    split at e
    · rename_i c
      cases e
      simp only [Im] at ix iy
      obtain ⟨rfl, _⟩ := ix
      obtain ⟨rfl, _⟩ := iy
      exact op_in_sign pins s σ H _ _ v u Q I rx ry ⟨c, S z, rfl, rfl, by rw [S_list]; exact q⟩
    · cases e
  | tup ys =>
    simp only [inO] at e
    split at e
    · rename_i c
      cases e
      simp only [Im] at iy
      obtain ⟨a, vs, rfl, h1, h2⟩ := iy
      cases ry
      obtain ⟨as, bs, r1, r2, c1, c2, hd, ea⟩ := inT_reads hu I h1 c ix rx h2
      exact SeqAt.in_tuple_reads r1 r2 c1 c2 hd ⟨.bl _, H, I, rfl, by rw [ea]; exact q⟩
    · cases e
  | cl ys =>
    simp only [inO] at e
    split at e
    · rename_i c
      cases e
      simp only [Im] at iy
      obtain ⟨a, vs, rfl, h1, h2⟩ := iy
      obtain ⟨d, ds, p1, p2, p3, p4, p5⟩ := inD_of h1.sq c ix h2
      exact op_inD hu pins s σ H x _ v u Q I rx ry ⟨d, ds, p1, p2, p3, p4, by rw [p5]; exact q⟩
    · cases e
  | ref a =>
    simp only [inO] at e
    simp only [Im] at iy
    subst iy
    split at e
    · rename_i ys hy
      split at e
      · rename_i c
        cases e
        obtain ⟨vs, e2, r2⟩ := hr a _ hy
        obtain ⟨d, ds, p1, p2, p3, p4, p5⟩ := inD_of (SqL.of e2) c ix r2
        exact op_inD hu pins s σ H x _ v u Q I rx ry ⟨d, ds, p1, p2, p3, p4, by rw [p5]; exact q⟩
      · cases e
    · rename_i kvs hy
      split at e
      · rename_i c
        cases e
        obtain ⟨vs, e2, r2⟩ := hr a _ hy
        obtain ⟨k, hk, rfl⟩ := keyR_of ix c
        cases ry
        refine d_in (by omega) I (DGet.k e2) rx fun s' I' => ⟨.bl _, H, I', rfl, ?_⟩
        have g := r2.get hk
        have e3 : (dget kvs dx).isSome = (valV vs k).isSome := by
          cases h1 : dget kvs dx <;> cases h2 : valV vs k <;> rw [h1, h2] at g <;> first | rfl | exact g.elim
        rw [← e3]
        exact q
      · cases e
    · cases e
  | _ => simp [inO] at e
theorem oc_notin (hu : X.A.units + 65 < cLine) : OpR X (compareOp .NotIn) (rB X.K (cmpO .NotIn)) := by
  intro pins s σ H x y v u Q I rx ry h
  obtain ⟨dx, dy, Hd, b, hr, ix, iy, e, q⟩ := h
  simp only [cmpO, Option.map_eq_some_iff] at e
  obtain ⟨b', e, rfl⟩ := e
  cases dy with
  | str z =>
    simp only [inO] at e
    split at e
    · rename_i c
      cases e
      simp only [Im] at ix iy
      obtain ⟨rfl, _⟩ := ix
      obtain ⟨rfl, _⟩ := iy
      exact op_notIn_sign pins s σ H _ _ v u Q I rx ry ⟨c, S z, rfl, rfl, by rw [S_list]; exact q⟩
    · cases e
  | tup ys =>
    simp only [inO] at e
    split at e
    · rename_i c
      cases e
      simp only [Im] at iy
      obtain ⟨a, vs, rfl, h1, h2⟩ := iy
      cases ry
      obtain ⟨as, bs, r1, r2, c1, c2, hd, ea⟩ := inT_reads hu I h1 c ix rx h2
      exact SeqAt.notIn_tuple_reads r1 r2 c1 c2 hd ⟨.bl _, H, I, rfl, by rw [ea]; exact q⟩
    · cases e
  | cl ys =>
    simp only [inO] at e
    split at e
    · rename_i c
      cases e
      simp only [Im] at iy
      obtain ⟨a, vs, rfl, h1, h2⟩ := iy
      obtain ⟨d, ds, p1, p2, p3, p4, p5⟩ := inD_of h1.sq c ix h2
      exact op_notInD hu pins s σ H x _ v u Q I rx ry ⟨d, ds, p1, p2, p3, p4, by rw [p5]; exact q⟩
    · cases e
  | ref a =>
    simp only [inO] at e
    simp only [Im] at iy
    subst iy
    split at e
    · rename_i ys hy
      split at e
      · rename_i c
        cases e
        obtain ⟨vs, e2, r2⟩ := hr a _ hy
        obtain ⟨d, ds, p1, p2, p3, p4, p5⟩ := inD_of (SqL.of e2) c ix r2
        exact op_notInD hu pins s σ H x _ v u Q I rx ry ⟨d, ds, p1, p2, p3, p4, by rw [p5]; exact q⟩
      · cases e
    · rename_i kvs hy
      split at e
      · rename_i c
        cases e
        obtain ⟨vs, e2, r2⟩ := hr a _ hy
        obtain ⟨k, hk, rfl⟩ := keyR_of ix c
        cases ry
        refine d_notIn (by omega) I (DGet.k e2) rx fun s' I' => ⟨.bl _, H, I', rfl, ?_⟩
        have g := r2.get hk
        have e3 : (dget kvs dx).isSome = (valV vs k).isSome := by
          cases h1 : dget kvs dx <;> cases h2 : valV vs k <;> rw [h1, h2] at g <;> first | rfl | exact g.elim
        rw [← e3]
        exact q
      · cases e
    · cases e
  | _ => simp [inO] at e
/-- every comparison that is known -/
theorem oc_all (hu : X.A.units + 65 < cLine) (op : CmpOp) : OpR X (compareOp op) (rB X.K (cmpO op)) := by
  cases op with
  | Eq => exact oc_eq hu
  | NotEq => exact oc_ne hu
  | Lt => exact oc_lt
  | LtE => exact oc_le
  | Gt => exact oc_gt
  | GtE => exact oc_ge
  | Is => exact oc_is
  | IsNot => exact oc_isnot
  | In => exact oc_in hu
  | NotIn => exact oc_notin hu
end
end CT

/-! CT4: arithmetic, places, slices, truth, calls of what is built in. -/
namespace CT
open PySem PySem.Spec PyProof.Rows L2

theorem S_app (a b : List Nat) : S a ++ S b = S (a ++ b) := by
  show Str.append (S a) (S b) = S (a ++ b)
  simp [Str.append, S]
theorem S_len (a : List Nat) : (S a).length = a.length := by simp [S, Str.length]
theorem asc_app {a b : List Nat} (h : asc a) (g : asc b) : asc (a ++ b) := fun c hc => (List.mem_append.mp hc).elim (h c) (g c)
/-- the wish behind a step -/
def KQ (K : PySem.W.Frag) (H : Hp) (R : DQ) (Q : VK) : Prop := ∀ d Hd' H' v, R d Hd' → Sub H H' → HR K Hd' H' → Im K H' d v → Q v H'
theorem KQ.at_ {K : PySem.W.Frag} {H : Hp} {R : DQ} {Q : VK} (k : KQ K H R Q) {d : D} {Hd : DH} {v : V} (r : R d Hd) (h : HR K Hd H) (i : Im K H d v) : Q v H := k d Hd H v r (Sub.refl H) h i
theorem KQ.new {K : PySem.W.Frag} {H : Hp} {Hd : DH} {R : DQ} {Q : VK} (k : KQ K H R Q) (hr : HR K Hd H) {o : HO} {u : DO} (n : CT.new Hd u R) {p : Addr} (e : H p = none) (r : OR K (upd H p o) p u) : Q (.ref p) (upd H p o) :=
  k (.ref p) _ _ _ (n p (hr.none e)) (Sub.new e) (hr.new e r) (by simp only [Im])
theorem or_lst {K : PySem.W.Frag} {H : Hp} {p : Addr} {ds : List D} {vs : List V} (e : H p = none) (i : ImL K H ds vs) : OR K (upd H p (.lst vs)) p (.lst ds) := ⟨vs, upd_same, ImL.sub (Sub.new e) _ _ i⟩
def rD (K : PySem.W.Frag) (f : D → D → DH → DQ → Prop) : R2 := fun x y H Q => ∃ dx dy Hd R, HR K Hd H ∧ Im K H dx x ∧ Im K H dy y ∧ f dx dy Hd R ∧ KQ K H R Q
theorem im_tup {K : PySem.W.Frag} {H : Hp} {p : Addr} {ds : List D} {vs : List V} (e : H p = none) (i : ImL K H ds vs) : Im K (upd H p (.tup vs)) (.tup ds) (.ref p) := by
  simp only [Im]
  exact ⟨p, vs, rfl, SqT.of upd_same, ImL.sub (Sub.new e) _ _ i⟩
section
variable {X : Cx}
theorem ob_add : OpR X (binaryOp .Add) (rD X.K (binO .Add)) := by
  intro pins s σ H x y v u Q I rx ry h
  obtain ⟨dx, dy, Hd, R, hr, ix, iy, h, k⟩ := h
  cases dx with
  | int i => cases dy with
    | int j =>
      simp only [Im] at ix iy
      exact op_add pins s σ H x y v u Q I rx ry ⟨i, j, ix, iy, k.at_ h hr (by simp only [Im])⟩
    | _ => exact h.elim
  | str a => cases dy with
    | str b =>
      simp only [Im] at ix iy
      obtain ⟨l, h⟩ := h
      refine op_add_str pins s σ H x y v u Q I rx ry ⟨S a, S b, ix.1, iy.1, by rw [S_len, S_len]; exact l, ?_⟩
      rw [S_app]
      exact k.at_ h hr (by simp only [Im]; exact ⟨trivial, asc_app ix.2 iy.2⟩)
    | _ => exact h.elim
  | tup a => cases dy with
    | tup b =>
      simp only [Im] at ix iy
      obtain ⟨l, h⟩ := h
      obtain ⟨p, vs, rfl, p1, p2⟩ := ix
      obtain ⟨q, ws, rfl, q1, q2⟩ := iy
      refine op_catA pins s σ H _ _ v u Q I rx ry ⟨p, q, vs, ws, rfl, rfl, p1, q1, by rw [← p2.length, ← q2.length]; exact l, fun z => ?_, fun z1 z2 => ?_, fun _ _ r e => ?_⟩
      · subst z
        have z : a = [] := List.length_eq_zero_iff.mp p2.length
        subst z
        exact k.at_ h hr (by simp only [Im]; exact ⟨q, ws, rfl, q1, q2⟩)
      · subst z2
        have z : b = [] := List.length_eq_zero_iff.mp q2.length
        subst z
        rw [List.append_nil] at h
        exact k.at_ h hr (by simp only [Im]; exact ⟨p, vs, rfl, p1, p2⟩)
      · exact k _ _ _ _ h (Sub.new e) (hr.untold e) (im_tup e (p2.app q2))
    | _ => exact h.elim
  | ref a => cases dy with
    | ref b =>
      simp only [Im] at ix iy
      subst ix iy
      simp only [binO] at h
      split at h
      · rename_i xs ys e1 e2
        obtain ⟨l, h⟩ := h
        obtain ⟨vs, g1, g2⟩ := hr a _ e1
        obtain ⟨ws, g3, g4⟩ := hr b _ e2
        exact op_cat pins s σ H _ _ v u Q I rx ry ⟨a, b, vs, ws, rfl, rfl, g1, g3, by rw [← g2.length, ← g4.length]; exact l, fun p e => k.new hr h e (or_lst e (g2.app g4))⟩
      · exact h.elim
    | _ => exact h.elim
  | _ => exact h.elim
theorem ob_int {op : Operator} {C : Int → Int → Prop} {g : Int → Int → Int} (ho : OpR X (binaryOp op) (rI C fun i j => .int (g i j))) (hc : ∀ x y Hd R, binO op x y Hd R → ∃ i j, x = .int i ∧ y = .int j ∧ C i j ∧ R (.int (g i j)) Hd) : OpR X (binaryOp op) (rD X.K (binO op)) := by
  intro pins s σ H x y v u Q I rx ry h
  obtain ⟨dx, dy, Hd, R, hr, ix, iy, h, k⟩ := h
  obtain ⟨i, j, rfl, rfl, c, h⟩ := hc _ _ _ _ h
  simp only [Im] at ix iy
  exact ho pins s σ H x y v u Q I rx ry ⟨i, j, ix, iy, c, k.at_ h hr (by simp only [Im])⟩
theorem ob_sub : OpR X (binaryOp .Sub) (rD X.K (binO .Sub)) := by
  intro pins s σ H x y v u Q I rx ry h
  obtain ⟨dx, dy, Hd, R, hr, ix, iy, h, k⟩ := h
  cases dx with
  | int i => cases dy with
    | int j =>
      simp only [Im] at ix iy
      exact op_sub pins s σ H x y v u Q I rx ry ⟨i, j, ix, iy, k.at_ h hr (by simp only [Im])⟩
    | _ => exact h.elim
  | _ => exact h.elim
theorem ob_all (op : Operator) : OpR X (binaryOp op) (rD X.K (binO op)) := by
  cases op with
  | Add => exact ob_add
  | Sub => exact ob_sub
  | Mult =>
    refine ob_int (C := CMul) (g := fun i j => i * j) op_mul fun x y Hd R h => ?_
    cases x <;> cases y <;> first | exact h.elim | exact ⟨_, _, rfl, rfl, h.1, h.2⟩
  | FloorDiv =>
    refine ob_int (C := CDiv) (g := fun i j => i / j) op_fdiv fun x y Hd R h => ?_
    cases x <;> cases y <;> first | exact h.elim | exact ⟨_, _, rfl, rfl, h.1, h.2⟩
  | Mod =>
    refine ob_int (C := fun _ j => 0 < j) (g := fun i j => i % j) op_mod fun x y Hd R h => ?_
    cases x <;> cases y <;> first | exact h.elim | exact ⟨_, _, rfl, rfl, h.1, h.2⟩
  | _ =>
    intro pins s σ H x y v u Q I rx ry h
    obtain ⟨dx, dy, Hd, R, hr, ix, iy, h, k⟩ := h
    exact h.elim
/-- a place -/
theorem ImL.atI {K : PySem.W.Frag} {H : Hp} {ds : List D} {vs : List V} {i : Int} {d : D} (r : ImL K H ds vs) (e : L2.atI ds i = some d) : ∃ v, L2.atI vs i = some v ∧ Im K H d v := by
  unfold L2.atI at e ⊢
  rw [← r.length]
  cases q : ixN ds.length i with
  | none => rw [q] at e; cases e
  | some j =>
    rw [q] at e
    exact r.get (i := j) e
theorem ix_all (hu : X.A.units + 65 < cLine) : IxR X (rD X.K idxO) := by
  have three := ix_seq (X := X)
  intro value slice pins s σ H x y v u Q I rx ry h hp
  obtain ⟨dx, dy, Hd, R, hr, ix, iy, h, k⟩ := h
  cases dx with
  | str z => cases dy with
    | int i =>
      obtain ⟨l, h⟩ := h
      cases e : L2.atI z i with
      | none => rw [e] at h; exact h.elim
      | some c =>
        rw [e] at h
        simp only [Im] at ix iy
        refine three value slice pins s σ H x y v u Q I rx ry (.inr (.inr ⟨S z, i, c, ix.1, iy, by rw [S_len]; exact l, by rw [S_list]; exact e, ?_⟩)) hp
        refine k.at_ h hr (v := .str ⟨#[c]⟩) ?_
        simp only [Im]
        refine ⟨rfl, fun c' hc => ?_⟩
        have e1 : c' = c := by simpa using hc
        subst e1
        obtain ⟨j, _, h2, _⟩ := atI_get e
        exact ix.2 c' (List.mem_of_getElem? h2)
    | _ => exact h.elim
  | tup xs => cases dy with
    | int i =>
      have h : optP (L2.atI xs i) fun v => R v Hd := h
      cases e : L2.atI xs i with
      | none => rw [e] at h; exact h.elim
      | some d =>
        rw [e] at h
        simp only [Im] at ix iy
        obtain ⟨a, vs, rfl, h1, h2⟩ := ix
        obtain ⟨w, e1, e2⟩ := h2.atI e
        exact three value slice pins s σ H _ y v u Q I rx ry (.inr (.inl ⟨a, vs, i, w, rfl, iy, h1, e1, k.at_ h hr e2⟩)) hp
    | _ => exact h.elim
  | cl xs => cases dy with
    | int i =>
      have h : optP (L2.atI xs i) fun v => R v Hd := h
      cases e : L2.atI xs i with
      | none => rw [e] at h; exact h.elim
      | some d =>
        rw [e] at h
        simp only [Im] at ix iy
        obtain ⟨a, vs, rfl, h1, h2⟩ := ix
        obtain ⟨w, e1, e2⟩ := h2.atI e
        exact three value slice pins s σ H _ y v u Q I rx ry (.inl ⟨a, vs, i, w, rfl, iy, h1.sq, e1, k.at_ h hr e2⟩) hp
    | _ => exact h.elim
  | ref a =>
    simp only [idxO] at h
    split at h
    · rename_i xs hx
      cases dy with
      | int i =>
        have h : optP (L2.atI xs i) fun v => R v Hd := h
        cases e : L2.atI xs i with
        | none => rw [e] at h; exact h.elim
        | some d =>
          rw [e] at h
          simp only [Im] at ix iy
          subst ix
          obtain ⟨vs, g1, g2⟩ := hr a _ hx
          obtain ⟨w, e1, e2⟩ := g2.atI e
          exact three value slice pins s σ H _ y v u Q I rx ry (.inl ⟨a, vs, i, w, rfl, iy, SqL.of g1, e1, k.at_ h hr e2⟩) hp
      | _ => exact h.elim
    · rename_i kvs hx
      obtain ⟨ky, h⟩ := h
      obtain ⟨vs, g1, g2⟩ := hr a _ hx
      obtain ⟨key, hk, rfl⟩ := keyR_of iy ky
      simp only [Im] at ix
      subst ix
      cases rx
      have g := g2.get hk
      cases e : dget kvs dy with
      | none => rw [e] at h; exact h.elim
      | some d =>
        rw [e] at h g
        cases e2 : valV vs key with
        | none => rw [e2] at g; exact g.elim
        | some w =>
          rw [e2] at g
          have dg : DGet H a (kV key) (some w) := by rw [← e2]; exact DGet.k g1
          exact tail_any (dict_typeIs I dg) PySem.F.slot_dict_getitem.lookup (d_getItem (by omega) I dg ry fun w' s3 I3 rw' => ⟨w, H, I3, rw', k.at_ h hr g⟩) hp
    · exact h.elim
  | _ => exact h.elim
end
end CT

/-! CT5: slices, truth, calls of what is built in. -/
namespace CT
open PySem PySem.Spec PyProof.Rows L2

theorem ImL.cut {K : PySem.W.Frag} {H : Hp} {ds : List D} {vs : List V} (r : ImL K H ds vs) (lo hi : Option Int) : ImL K H (CT.cut ds lo hi) (cutV vs lo hi) := by
  unfold CT.cut cutV
  rw [← r.length]
  exact (r.drop _).take _
theorem cut_whole {α : Type} {xs : List α} {lo hi : Option Int} (h : HT.sIx xs.length 0 lo = 0 ∧ HT.sIx xs.length xs.length hi = xs.length) : cut xs lo hi = xs := by
  unfold cut
  rw [h.1, h.2]
  simp
theorem mem_cut {α : Type} {xs : List α} {lo hi : Option Int} {x : α} (h : x ∈ cut xs lo hi) : x ∈ xs := List.mem_of_mem_drop (List.mem_of_mem_take h)
def rS (K : PySem.W.Frag) : V → Option Int → Option Int → Hp → VK → Prop := fun x lo hi H Q => ∃ dx Hd R, HR K Hd H ∧ Im K H dx x ∧ slcO dx lo hi Hd R ∧ KQ K H R Q
section
variable {X : Cx}
theorem sl_all : SlR X (rS X.K) := by
  intro pins s σ H x v vl vu lo hi sl Q I rx hs pl pu h
  obtain ⟨dx, Hd, R, hr, ix, h, k⟩ := h
  cases dx with
  | str z =>
    obtain ⟨l, h⟩ := h
    simp only [Im] at ix
    refine sl_str pins s σ H x v vl vu lo hi sl Q I rx hs pl pu ⟨S z, ix.1, by rw [S_len]; exact l, ?_⟩
    have e : cutS (S z) lo hi = S (cut z lo hi) := by
      unfold cutS cut
      rw [S_len, S_list]
      rfl
    rw [e]
    exact k.at_ h hr (by simp only [Im]; exact ⟨trivial, fun c hc => ix.2 c (mem_cut hc)⟩)
  | tup xs =>
    have h : R (.tup (cut xs lo hi)) Hd := h
    simp only [Im] at ix
    obtain ⟨a, vs, rfl, h1, h2⟩ := ix
    refine sl_tupA pins s σ H _ v vl vu lo hi sl Q I rx hs pl pu ⟨a, vs, rfl, h1, fun w => ?_, fun _ p e => ?_⟩
    · rw [← h2.length] at w
      rw [cut_whole w] at h
      exact k.at_ h hr (by simp only [Im]; exact ⟨a, vs, rfl, h1, h2⟩)
    · exact k _ _ _ _ h (Sub.new e) (hr.untold e) (im_tup e (h2.cut lo hi))
  | cl xs =>
    simp only [Im] at ix
    obtain ⟨a, vs, rfl, h1, h2⟩ := ix
    exact sl_list pins s σ H _ v vl vu lo hi sl Q I rx hs pl pu ⟨a, vs, rfl, h1.sq, fun p e => k.new hr h e (or_lst e (h2.cut lo hi))⟩
  | ref a =>
    simp only [slcO] at h
    split at h
    · rename_i xs hx
      simp only [Im] at ix
      subst ix
      obtain ⟨vs, g1, g2⟩ := hr a _ hx
      exact sl_list pins s σ H _ v vl vu lo hi sl Q I rx hs pl pu ⟨a, vs, rfl, SqL.of g1, fun p e => k.new hr h e (or_lst e (g2.cut lo hi))⟩
    · exact h.elim
  | _ => exact h.elim
theorem truV_of {H : Hp} {Hd : DH} {dx : D} {x : V} {b : Bool} (hr : HR X.K Hd H) (ix : Im X.K H dx x) (e : tru Hd dx = some b) : TruV X.K x H b := by
  cases dx with
  | non => simp only [Im] at ix; subst ix; simp only [tru, Option.some.injEq] at e; exact e.symm
  | bl c => simp only [Im] at ix; subst ix; simp only [tru, Option.some.injEq] at e; exact e.symm
  | int i => simp only [Im] at ix; subst ix; simp only [tru, Option.some.injEq] at e; exact e.symm
  | str z =>
    simp only [Im] at ix
    obtain ⟨rfl, _⟩ := ix
    simp only [tru] at e
    split at e
    · rename_i l
      cases e
      refine ⟨by rw [S_len]; exact l, ?_⟩
      rw [S_len]
      cases z <;> simp
      omega
    · cases e
  | tup xs =>
    simp only [Im] at ix
    obtain ⟨a, vs, rfl, h1, h2⟩ := ix
    simp only [tru, Option.some.injEq] at e
    refine .inr (.inl ⟨vs, h1, ?_⟩)
    rw [← e]
    have l := h2.length
    cases xs <;> cases vs <;> simp at l ⊢
  | cl xs =>
    simp only [Im] at ix
    obtain ⟨a, vs, rfl, h1, h2⟩ := ix
    simp only [tru, Option.some.injEq] at e
    refine .inl ⟨vs, h1.sq, ?_⟩
    rw [← e]
    have l := h2.length
    cases xs <;> cases vs <;> simp at l ⊢
  | ref a =>
    simp only [Im] at ix
    subst ix
    simp only [tru] at e
    split at e
    · rename_i xs hx
      cases e
      obtain ⟨vs, g1, g2⟩ := hr a _ hx
      refine .inl ⟨vs, SqL.of g1, ?_⟩
      have l := g2.length
      cases xs <;> cases vs <;> simp at l ⊢
    · rename_i xs hx
      cases e
      obtain ⟨vs, g1, g2⟩ := hr a _ hx
      refine .inr (.inr ⟨vs, g1, ?_⟩)
      have l := g2.len
      cases xs <;> cases vs <;> simp at l ⊢
    · cases e
  | _ => simp [tru] at e

/-! ### built-in functions -/
theorem ImL.one {K : PySem.W.Frag} {H : Hp} {d : D} {vs : List V} (h : ImL K H [d] vs) : ∃ v, vs = [v] ∧ Im K H d v := by
  simp only [ImL] at h
  obtain ⟨w, ws, rfl, h1, rfl⟩ := h
  exact ⟨w, rfl, h1⟩
theorem ImL.two {K : PySem.W.Frag} {H : Hp} {d e : D} {vs : List V} (h : ImL K H [d, e] vs) : ∃ v w, vs = [v, w] ∧ Im K H d v ∧ Im K H e w := by
  simp only [ImL] at h
  obtain ⟨w, ws, rfl, h1, w2, ws2, rfl, h2, rfl⟩ := h
  exact ⟨w, w2, rfl, h1, h2⟩
def rC (K : PySem.W.Frag) (f : List D → DH → DQ → Prop) : List V → Hp → VK → Prop := fun xs H Q => ∃ ds Hd R, HR K Hd H ∧ ImL K H ds xs ∧ f ds Hd R ∧ KQ K H R Q
theorem optP_some {α : Type} {o : Option α} {Q : α → Prop} (h : optP o Q) : ∃ a, o = some a ∧ Q a := by
  cases o with
  | none => exact h.elim
  | some a => exact ⟨a, rfl, h⟩
theorem intsD_map : ∀ {ds : List D} {l : List Int}, intsD ds = some l → ds = l.map D.int
  | [], l, h => by cases h; rfl
  | d :: ds, l, h => by
    cases d with
    | int i =>
      simp only [intsD, Option.map_eq_some_iff] at h
      obtain ⟨r, e, rfl⟩ := h
      rw [intsD_map e]
      rfl
    | _ => simp [intsD] at h
theorem strsD_map : ∀ {ds : List D} {l : List (List Nat)}, strsD ds = some l → ds = l.map D.str
  | [], l, h => by cases h; rfl
  | d :: ds, l, h => by
    cases d with
    | str i =>
      simp only [strsD, Option.map_eq_some_iff] at h
      obtain ⟨r, e, rfl⟩ := h
      rw [strsD_map e]
      rfl
    | _ => simp [strsD] at h
theorem allB_map : ∀ {ds : List D} {b : Bool}, allB ds = some b → ∃ l : List Bool, ds = l.map D.bl ∧ b = l.all id
  | [], b, h => by cases h; exact ⟨[], rfl, rfl⟩
  | d :: ds, b, h => by
    cases d with
    | bl i =>
      simp only [allB, Option.map_eq_some_iff] at h
      obtain ⟨r, e, rfl⟩ := h
      obtain ⟨l, rfl, rfl⟩ := allB_map e
      exact ⟨i :: l, rfl, by simp⟩
    | _ => simp [allB] at h
theorem anyB_map : ∀ {ds : List D} {b : Bool}, anyB ds = some b → ∃ l : List Bool, ds = l.map D.bl ∧ b = l.any id
  | [], b, h => by cases h; exact ⟨[], rfl, rfl⟩
  | d :: ds, b, h => by
    cases d with
    | bl i =>
      simp only [anyB, Option.map_eq_some_iff] at h
      obtain ⟨r, e, rfl⟩ := h
      obtain ⟨l, rfl, rfl⟩ := anyB_map e
      exact ⟨i :: l, rfl, by simp⟩
    | _ => simp [anyB] at h
theorem iml_ints {K : PySem.W.Frag} {H : Hp} : ∀ {l : List Int} {vs : List V}, ImL K H (l.map D.int) vs → vs = l.map V.int
  | [], vs, h => by simpa only [List.map_nil, ImL] using h
  | i :: l, vs, h => by
    simp only [List.map_cons, ImL] at h
    obtain ⟨w, ws, rfl, h1, h2⟩ := h
    simp only [Im] at h1
    rw [h1, iml_ints h2]
    rfl
theorem iml_bls {K : PySem.W.Frag} {H : Hp} : ∀ {l : List Bool} {vs : List V}, ImL K H (l.map D.bl) vs → vs = l.map V.bl
  | [], vs, h => by simpa only [List.map_nil, ImL] using h
  | i :: l, vs, h => by
    simp only [List.map_cons, ImL] at h
    obtain ⟨w, ws, rfl, h1, h2⟩ := h
    simp only [Im] at h1
    rw [h1, iml_bls h2]
    rfl
theorem iml_strs {K : PySem.W.Frag} {H : Hp} : ∀ {l : List (List Nat)} {vs : List V}, ImL K H (l.map D.str) vs → vs = (l.map S).map V.str ∧ ∀ x ∈ l, asc x
  | [], vs, h => by simp only [List.map_nil, ImL] at h; subst h; exact ⟨rfl, by simp⟩
  | i :: l, vs, h => by
    simp only [List.map_cons, ImL] at h
    obtain ⟨w, ws, rfl, h1, h2⟩ := h
    simp only [Im] at h1
    obtain ⟨e, a⟩ := iml_strs h2
    rw [h1.1, e]
    refine ⟨rfl, fun x hx => ?_⟩
    rcases List.mem_cons.mp hx with rfl | hx
    · exact h1.2
    · exact a x hx
theorem maxI_spec : ∀ (r : List Int) (i : Int), maxI i r ∈ i :: r ∧ ∀ y ∈ i :: r, y ≤ maxI i r
  | [], i => ⟨by simp [maxI], fun y h => by simp at h; subst h; simp [maxI]⟩
  | x :: r, i => by
    obtain ⟨h1, h2⟩ := maxI_spec r (if x > i then x else i)
    simp only [maxI]
    refine ⟨?_, fun y hy => ?_⟩
    · rcases List.mem_cons.mp h1 with e | e
      · rw [e]; split <;> simp
      · exact List.mem_cons_of_mem _ (List.mem_cons_of_mem _ e)
    · have h3 := h2 _ List.mem_cons_self
      rcases List.mem_cons.mp hy with rfl | hy
      · revert h3
        generalize maxI _ r = m
        split <;> omega
      · rcases List.mem_cons.mp hy with rfl | hy
        · revert h3
          generalize maxI _ r = m
          split <;> omega
        · exact h2 y (List.mem_cons_of_mem _ hy)
theorem minI_spec : ∀ (r : List Int) (i : Int), minI i r ∈ i :: r ∧ ∀ y ∈ i :: r, minI i r ≤ y
  | [], i => ⟨by simp [minI], fun y h => by simp at h; subst h; simp [minI]⟩
  | x :: r, i => by
    obtain ⟨h1, h2⟩ := minI_spec r (if x < i then x else i)
    simp only [minI]
    refine ⟨?_, fun y hy => ?_⟩
    · rcases List.mem_cons.mp h1 with e | e
      · rw [e]; split <;> simp
      · exact List.mem_cons_of_mem _ (List.mem_cons_of_mem _ e)
    · have h3 := h2 _ List.mem_cons_self
      rcases List.mem_cons.mp hy with rfl | hy
      · revert h3
        generalize minI _ r = m
        split <;> omega
      · rcases List.mem_cons.mp hy with rfl | hy
        · revert h3
          generalize minI _ r = m
          split <;> omega
        · exact h2 y (List.mem_cons_of_mem _ hy)
theorem cb_len : CallR X (.builtin "len") (rC X.K fun es H Q => match es with
    | [x] => optP (lenO H x) fun n => n ≤ sizeLine ∧ Q (.int n) H
    | _ => False) := by
  intro pins s σ H xs us Q I r h
  obtain ⟨ds, Hd, R, hr, il, h, k⟩ := h
  split at h
  · rename_i d
    obtain ⟨n, e, l, h⟩ := optP_some h
    obtain ⟨x, rfl, ix⟩ := il.one
    have go : ∀ m, LenV X.K x H m → m = n → wpAny (model X.prog X.w) X.A (call (.builtin "len") us) (EP X pins σ Q) X.xe s := fun m lv em => by
      subst em
      exact call_len pins s σ H [x] us Q I r ⟨x, m, rfl, lv, k.at_ h hr (by simp only [Im])⟩
    cases d with
    | str z =>
      simp only [lenO, Option.some.injEq] at e
      subst e
      simp only [Im] at ix
      obtain ⟨rfl, _⟩ := ix
      exact go _ ⟨by rw [S_len]; exact l, rfl⟩ (S_len z)
    | tup z =>
      simp only [lenO, Option.some.injEq] at e
      subst e
      simp only [Im] at ix
      obtain ⟨a, vs, rfl, h1, h2⟩ := ix
      exact go _ (.inr ⟨vs, h1, rfl⟩) h2.length.symm
    | cl z =>
      simp only [lenO, Option.some.injEq] at e
      subst e
      simp only [Im] at ix
      obtain ⟨a, vs, rfl, h1, h2⟩ := ix
      exact go _ (.inl ⟨vs, h1.sq, rfl⟩) h2.length.symm
    | ref a =>
      simp only [Im] at ix
      subst ix
      simp only [lenO] at e
      split at e
      · rename_i z hz
        cases e
        obtain ⟨vs, g1, g2⟩ := hr a _ hz
        exact go _ (.inl ⟨vs, SqL.of g1, rfl⟩) g2.length.symm
      · rename_i z hz
        cases e
        obtain ⟨vs, g1, g2⟩ := hr a _ hz
        exact call_lenD pins s σ H _ us Q I r ⟨a, vs, rfl, g1, by rw [← g2.len]; exact k.at_ h hr (by simp only [Im])⟩
      · cases e
    | _ => simp [lenO] at e
  · exact h.elim
theorem cb_red {f : Value} {α : Type} {g : List D → Option α} {P : α → DH → DQ → Prop} (ho : ∀ (pins : List (Addr × Obj)) (s : Shared) (σ : L2.St) (H : Hp) (a : Addr) (vs : List V) (ds : List D) (us : List Value) (Q : VK) (Hd : DH) (R : DQ) (v : α), Inv X pins σ H s → Vals [.ref a] us → SqL X.K H a vs → ImL X.K H ds vs → g ds = some v → HR X.K Hd H → P v Hd R → KQ X.K H R Q →
      wpAny (model X.prog X.w) X.A (call f us) (EP X pins σ Q) X.xe s) :
    CallR X f (rC X.K fun es H Q => match es with
      | [x] => optP ((lsAt H x).bind g) fun v => P v H Q
      | _ => False) := by
  intro pins s σ H xs us Q I r h
  obtain ⟨ds, Hd, R, hr, il, h, k⟩ := h
  split at h
  · rename_i d
    obtain ⟨n, e, h⟩ := optP_some h
    obtain ⟨x, rfl, ix⟩ := il.one
    cases e2 : lsAt Hd d with
    | none => rw [e2] at e; cases e
    | some l =>
      rw [e2] at e
      obtain ⟨a, vs, rfl, h1, h2⟩ := lsAt_of hr ix e2
      exact ho pins s σ H a vs l us Q Hd R n I r h1 h2 e hr h k
  · exact h.elim
theorem cb_all (hc : X.calm = true) : CallR X (.builtin "all") (rC X.K fun es H Q => match es with
    | [x] => optP ((lsAt H x).bind allB) fun b => Q (.bl b) H
    | _ => False) := cb_red (P := fun b H Q => Q (.bl b) H) fun pins s σ H a vs ds us Q Hd R v I r h1 h2 e hr h k => by
  obtain ⟨l, rfl, rfl⟩ := allB_map e
  have e2 := iml_bls h2
  subst e2
  exact cr_all hc pins s σ H _ us Q I r ⟨a, l, rfl, h1, k.at_ h hr (by simp only [Im])⟩
theorem cb_any (hc : X.calm = true) : CallR X (.builtin "any") (rC X.K fun es H Q => match es with
    | [x] => optP ((lsAt H x).bind anyB) fun b => Q (.bl b) H
    | _ => False) := cb_red (P := fun b H Q => Q (.bl b) H) fun pins s σ H a vs ds us Q Hd R v I r h1 h2 e hr h k => by
  obtain ⟨l, rfl, rfl⟩ := anyB_map e
  have e2 := iml_bls h2
  subst e2
  exact cr_any hc pins s σ H _ us Q I r ⟨a, l, rfl, h1, k.at_ h hr (by simp only [Im])⟩
theorem cb_sum (hc : X.calm = true) : CallR X (.builtin "sum") (rC X.K fun es H Q => match es with
    | [x] => optP ((lsAt H x).bind intsD) fun l => Q (.int l.sum) H
    | _ => False) := cb_red (P := fun (b : List Int) H Q => Q (.int b.sum) H) fun pins s σ H a vs ds us Q Hd R v I r h1 h2 e hr h k => by
  have e1 := intsD_map e
  subst e1
  have e2 := iml_ints h2
  subst e2
  exact cr_sum hc pins s σ H _ us Q I r ⟨a, v, rfl, h1, k.at_ h hr (by simp only [Im])⟩
theorem cb_max1 (hc : X.calm = true) : CallR X (.builtin "max") (rC X.K fun es H Q => match es with
    | [x] => optP ((lsAt H x).bind intsD) fun l => (match l with
      | [] => False
      | i :: r => Q (.int (maxI i r)) H)
    | _ => False) := cb_red (P := fun (l : List Int) H Q => (match l with
      | [] => False
      | i :: r => Q (.int (maxI i r)) H)) fun pins s σ H a vs ds us Q Hd R v I r h1 h2 e hr h k => by
  have e1 := intsD_map e
  subst e1
  have e2 := iml_ints h2
  subst e2
  cases v with
  | nil => exact h.elim
  | cons i l =>
    refine cr_max hc pins s σ H _ us Q I r ⟨a, i :: l, rfl, h1, by simp, fun m hm hle => ?_⟩
    have e : m = maxI i l := Int.le_antisymm ((maxI_spec l i).2 m hm) (hle _ (maxI_spec l i).1)
    rw [e]
    exact k.at_ h hr (by simp only [Im])
theorem cb_min1 (hc : X.calm = true) : CallR X (.builtin "min") (rC X.K fun es H Q => match es with
    | [x] => optP ((lsAt H x).bind intsD) fun l => (match l with
      | [] => False
      | i :: r => Q (.int (minI i r)) H)
    | _ => False) := cb_red (P := fun (l : List Int) H Q => (match l with
      | [] => False
      | i :: r => Q (.int (minI i r)) H)) fun pins s σ H a vs ds us Q Hd R v I r h1 h2 e hr h k => by
  have e1 := intsD_map e
  subst e1
  have e2 := iml_ints h2
  subst e2
  cases v with
  | nil => exact h.elim
  | cons i l =>
    refine cr_min hc pins s σ H _ us Q I r ⟨a, i :: l, rfl, h1, by simp, fun m hm hle => ?_⟩
    have e : m = minI i l := Int.le_antisymm (hle _ (minI_spec l i).1) ((minI_spec l i).2 m hm)
    rw [e]
    exact k.at_ h hr (by simp only [Im])
end
end CT

/-! CT6: what is known of the names; expressions put together. -/
namespace CT
open PySem PySem.Spec PyProof.Rows L2

def spV (K : PySem.W.Frag) (sp : DSp) : Sp := fun vs H Q E => ∃ ds Hd R X, ImL K H ds vs ∧ HR K Hd H ∧ sp ds Hd R X ∧ (∀ d Hd' H' v, R d Hd' → HR K Hd' H' → Im K H' d v → Q v H') ∧ (∀ c fs Hd' H' cls dd, X c fs Hd' → HR K Hd' H' → XR K H' c fs cls dd → E cls dd H')
theorem Sub.un {fs ex : List Addr} {H H' : Hp} {h h' : Heap} (u : Un fs ex H H' h h') : Sub H H' := ⟨u.tups, u.frzs⟩
theorem Sub.ub {fs : List Addr} {H H' : Hp} {h B h' : Heap} (u : UB fs H H' h B h') : Sub H H' := ⟨u.tups, u.frzs⟩
theorem fn_sub {P : Program} {w : World} {K : PySem.W.Frag} {mg : Str → Option Value} {base : Heap} {k : Nat} {f : Addr} {fd : FuncData} {ps : List Str} {sp : Sp} (F : FnOk P w K mg base (L2.CX P w) k f fd ps sp) :
    FnOk P w K mg base (L2.CX P w) k f fd ps (fun vs H Q E => sp vs H (fun v H' => Sub H H' → Q v H') (fun c d H' => Sub H H' → E c d H')) := by
  refine ⟨fun vs H Q E h => F.len _ _ _ _ h, fun A outer s H args us vs Q E hr e0 hb hv h => ?_⟩
  refine codeAny_mono (F.run A outer s H args us vs _ _ hr e0 hb hv h) fun r s' q => ?_
  cases r with
  | error e =>
    obtain ⟨a, B, H', cls, d, h1, h2, h3, h4, h5, h6, h7, h8⟩ := q
    exact ⟨a, B, H', cls, d, h1, h2, h3, h4, h5, h6, h7, h8 (Sub.ub h4)⟩
  | ok fl =>
    cases fl with
    | ret u =>
      obtain ⟨v, H', h1, h2, h3, h4, h5, h6⟩ := q
      exact ⟨v, H', h1, h2, h3, h4, h5, h6 (Sub.un h3)⟩
    | next => exact False.elim q
    | brk => exact False.elim q
    | cont => exact False.elim q

/-- the built-in names that are asked -/
def bnames : List (Str × Value) := [("len", .builtin "len"), ("isinstance", .builtin "isinstance"), ("max", .builtin "max"), ("min", .builtin "min"), ("all", .builtin "all"), ("any", .builtin "any"), ("sum", .builtin "sum"),
  ("list", .type "list"), ("tuple", .type "tuple"), ("dict", .type "dict"), ("str", .type "str"), ("int", .type "int"), ("bool", .type "bool"), ("sorted", .builtin "sorted"), ("set", .type "set"), ("repr", .builtin "repr"),
  ("range", .type "range"), ("enumerate", .type "enumerate"), ("ValueError", .type "ValueError")]
theorem bnames_boot : bnames.all (fun p => decide (bootBuiltins p.1 = some p.2) && !decide (p.1 = ("__name__" : Str)) && !(p.1 == ("__debug__" : Str))) = true := by decide +kernel
theorem bboot {x : Str} {u : Value} (h : (x, u) ∈ bnames) : bootBuiltins x = some u ∧ x ≠ "__name__" ∧ (x == ("__debug__" : Str)) = false := by
  have q := List.all_eq_true.mp bnames_boot _ h
  simp only [Bool.and_eq_true, decide_eq_true_eq, Bool.not_eq_true', decide_eq_false_iff_not] at q
  exact ⟨q.1.1, q.1.2, q.2⟩
structure FOk (X : Cx) (f : Str) (sp : DSp) : Prop where
  ex : ∃ a fd ps k, X.mg f = some (.ref a) ∧ PySem.W.keepIn X.K (.ref a) = true ∧ FnOk X.prog X.w X.K X.mg X.base (L2.CX X.prog X.w) k a fd ps (spV X.K sp) ∧ Binds X.K fd ps [] ∧ Room k X.A
structure GOk (G : Gam) (X : Cx) : Prop where
  hu : X.A.units + 65 < cLine
  calm : X.calm = true
  fn : ∀ f sp, G.fn f = some sp → FOk X f sp
  blt : ∀ p ∈ bnames, X.mg p.1 = none
  gv : ∀ x d, G.gv x = some d → ∃ u, X.mg x = some u ∧ ∃ v, RelV v u ∧ ∀ H, Im X.K H d v

section
variable {X : Cx} {G : Gam}
/-! ### the rest of the built-in functions -/
theorem cb_max2 (hc : X.calm = true) : CallR X (.builtin "max") (rC X.K fun es H Q => match es with
    | [.int i, .int j] => Q (.int (if j > i then j else i)) H
    | _ => False) := by
  intro pins s σ H xs us Q I r h
  obtain ⟨ds, Hd, R, hr, il, h, k⟩ := h
  split at h
  · obtain ⟨x, y, rfl, ix, iy⟩ := il.two
    simp only [Im] at ix iy
    subst ix iy
    exact call_max2 hc pins s σ H _ us Q I r ⟨_, _, rfl, k.at_ h hr (by simp only [Im])⟩
  · exact h.elim
theorem cb_min2 (hc : X.calm = true) : CallR X (.builtin "min") (rC X.K fun es H Q => match es with
    | [.int i, .int j] => Q (.int (if j < i then j else i)) H
    | _ => False) := by
  intro pins s σ H xs us Q I r h
  obtain ⟨ds, Hd, R, hr, il, h, k⟩ := h
  split at h
  · obtain ⟨x, y, rfl, ix, iy⟩ := il.two
    simp only [Im] at ix iy
    subst ix iy
    exact call_min2 hc pins s σ H _ us Q I r ⟨_, _, rfl, k.at_ h hr (by simp only [Im])⟩
  · exact h.elim
theorem cb_list : CallR X (.type "list") (rC X.K fun es H Q => match es with
    | [x] => optP (sqAt H x) fun l => new H (.lst l) Q
    | _ => False) := by
  intro pins s σ H xs us Q I r h
  obtain ⟨ds, Hd, R, hr, il, h, k⟩ := h
  split at h
  · obtain ⟨x, rfl, ix⟩ := il.one
    obtain ⟨l, e, h⟩ := optP_some h
    obtain ⟨a, vs, rfl, h1, h2⟩ := sqAt_of hr ix e
    exact call_list_of pins s σ H _ us Q I r ⟨a, vs, rfl, h1, fun p e => k.new hr h e (or_lst e h2)⟩
  · exact h.elim
theorem cb_tuple : CallR X (.type "tuple") (rC X.K fun es H Q => match es with
    | [x] => optP (sqAt H x) fun l => Q (.tup l) H
    | _ => False) := by
  intro pins s σ H xs us Q I r h
  obtain ⟨ds, Hd, R, hr, il, h, k⟩ := h
  split at h
  · obtain ⟨x, rfl, ix⟩ := il.one
    obtain ⟨l, e, h⟩ := optP_some h
    obtain ⟨a, vs, rfl, h1, h2⟩ := sqAt_of hr ix e
    refine call_tuple_of pins s σ H _ us Q I r ⟨a, vs, rfl, ?_⟩
    rcases h1 with h1 | h1
    · exact .inl ⟨h1, fun p e => k _ _ _ _ h (Sub.new e) (hr.untold e) (im_tup e h2)⟩
    · exact .inr ⟨h1, k.at_ h hr (by simp only [Im]; exact ⟨a, vs, rfl, h1, h2⟩)⟩
  · exact h.elim
theorem numL_asc (n : Nat) : asc (TL.numL n) := fun c hc => by
  have h := TL.numL_free (n := n) (s := c)
  by_cases z : c < 48 ∨ 57 < c
  · exact absurd hc (h z)
  · omega
theorem cb_str : CallR X (.type "str") (rC X.K fun es H Q => match es with
    | [.int i] => i.natAbs.log2 < 1920 ∧ 0 ≤ i ∧ Q (.str (TL.numL i.toNat)) H
    | _ => False) := by
  intro pins s σ H xs us Q I r h
  obtain ⟨ds, Hd, R, hr, il, h, k⟩ := h
  split at h
  · rename_i i
    obtain ⟨x, rfl, ix⟩ := il.one
    simp only [Im] at ix
    subst ix
    obtain ⟨h1, h2, h⟩ := h
    refine call_str_int pins s σ H _ us Q I r ⟨i, rfl, h1, ?_⟩
    obtain ⟨n, rfl⟩ := Int.eq_ofNat_of_zero_le h2
    have e : (Str.ofString (toString ((n : Nat) : Int))) = S (TL.numL n) := by
      have q := TL.tl_num n
      show (⟨(Str.ofString (toString ((n : Nat) : Int))).cps⟩ : Str) = S (TL.numL n)
      unfold S
      rw [← q]
    show Q (.str (Str.ofString (toString ((n : Nat) : Int)))) H
    rw [e]
    exact k.at_ h hr (by simp only [Im]; exact ⟨rfl, numL_asc n⟩)
  · exact h.elim
theorem cb_int : CallR X (.type "int") (rC X.K fun es H Q => match es with
    | [.int i] => Q (.int i) H
    | [.bl b] => Q (.int (if b then 1 else 0)) H
    | _ => False) := by
  intro pins s σ H xs us Q I r h
  obtain ⟨ds, Hd, R, hr, il, h, k⟩ := h
  split at h
  · obtain ⟨x, rfl, ix⟩ := il.one
    simp only [Im] at ix
    subst ix
    exact call_int1 pins s σ H _ us Q I r (.inl ⟨_, rfl, k.at_ h hr (by simp only [Im])⟩)
  · obtain ⟨x, rfl, ix⟩ := il.one
    simp only [Im] at ix
    subst ix
    exact call_int1 pins s σ H _ us Q I r (.inr ⟨_, rfl, k.at_ h hr (by simp only [Im])⟩)
  · exact h.elim
def tyNames : List String := ["NoneType", "bool", "int", "str", "tuple", "list", "dict"]
def toNames : List String := ["str", "int", "bool", "list", "tuple", "dict"]
theorem isaB_all : (tyNames.all fun a => toNames.all fun b => decide (kitB a b = isaB a b)) = true := by decide +kernel
theorem isaB_ok {a b : String} (ha : a ∈ tyNames) {r : Bool} (h : isaB a b = some r) : kitB a b = some r := by
  have hb : b ∈ toNames := by
    unfold isaB at h
    split at h
    · rename_i q
      simp only [toNames, List.mem_cons, List.not_mem_nil, or_false]
      exact q
    · cases h
  have q := of_decide_eq_true (List.all_eq_true.mp (List.all_eq_true.mp isaB_all a ha) b hb)
  rw [q]
  exact h
/-- a value's type -/
theorem tyX_of {H : Hp} {Hd : DH} {dx : D} {x : V} {a : String} (hr : HR X.K Hd H) (ix : Im X.K H dx x) (e : tyO Hd dx = some (.inl a)) : a ∈ tyNames ∧ TyX X.K H x (.type a) := by
  cases dx with
  | non => simp only [Im] at ix; subst ix; simp only [tyO, Option.some.injEq, Sum.inl.injEq] at e; subst e; exact ⟨by simp [tyNames], .base .non⟩
  | bl c => simp only [Im] at ix; subst ix; simp only [tyO, Option.some.injEq, Sum.inl.injEq] at e; subst e; exact ⟨by simp [tyNames], .base (.bl c)⟩
  | int c => simp only [Im] at ix; subst ix; simp only [tyO, Option.some.injEq, Sum.inl.injEq] at e; subst e; exact ⟨by simp [tyNames], .base (.int c)⟩
  | str c => simp only [Im] at ix; obtain ⟨rfl, _⟩ := ix; simp only [tyO, Option.some.injEq, Sum.inl.injEq] at e; subst e; exact ⟨by simp [tyNames], .base (.str _)⟩
  | tup xs =>
    simp only [Im] at ix
    obtain ⟨p, vs, rfl, h1, h2⟩ := ix
    simp only [tyO, Option.some.injEq, Sum.inl.injEq] at e
    subst e
    refine ⟨by simp [tyNames], ?_⟩
    rcases h1 with (h1 | ⟨o, h1⟩) | ⟨o, its, n, h1, h3, _⟩
    · exact .base (.tup h1)
    · exact .fTuple h1
    · exact .kTuple h1 h3
  | cl xs =>
    simp only [Im] at ix
    obtain ⟨p, vs, rfl, h1, h2⟩ := ix
    simp only [tyO, Option.some.injEq, Sum.inl.injEq] at e
    subst e
    refine ⟨by simp [tyNames], ?_⟩
    rcases h1 with ⟨o, h1⟩ | ⟨o, its, n, h1, h3, _⟩
    · exact .base (.frz h1)
    · exact .kList h1 h3
  | ref p =>
    simp only [Im] at ix
    subst ix
    simp only [tyO] at e
    split at e
    · rename_i xs hx
      cases e
      obtain ⟨vs, g, _⟩ := hr p _ hx
      exact ⟨by simp [tyNames], .base (.lst g)⟩
    · rename_i xs hx
      cases e
      obtain ⟨vs, g, _⟩ := hr p _ hx
      exact ⟨by simp [tyNames], .base (.dK g)⟩
    · cases e
    · cases e
  | _ => simp [tyO] at e
theorem cb_isin : CallR X (.builtin "isinstance") (rC X.K fun es H Q => match es with
    | [x, .ty c] => optP (match tyO H x with
      | some (.inl a) => isaB a c
      | _ => none) fun b => Q (.bl b) H
    | _ => False) := by
  intro pins s σ H xs us Q I r h
  obtain ⟨ds, Hd, R, hr, il, h, k⟩ := h
  split at h
  · rename_i d c
    obtain ⟨x, y, rfl, ix, iy⟩ := il.two
    simp only [Im] at iy
    subst iy
    obtain ⟨b, e, h⟩ := optP_some h
    split at e
    · rename_i a et
      obtain ⟨h1, h2⟩ := tyX_of hr ix et
      exact call_isi pins s σ H _ us Q I r ⟨x, _, _, _, b, rfl, .ty c, h2, kit_ty (isaB_ok h1 e), k.at_ h hr (by simp only [Im])⟩
    · cases e
  · exact h.elim

/-! ### expressions -/
theorem CallR.imp {f : Value} {r r' : List V → Hp → VK → Prop} (h : CallR X f r) (i : ∀ xs H Q, r' xs H Q → r xs H Q) : CallR X f r' := fun pins s σ H xs us Q I rs q => h pins s σ H xs us Q I rs (i xs H Q q)
variable {a b c o : Expr} {es : List Expr} {ta tb tc : DTE} {tes : DTA} {pos : Pos}
theorem rC_or {K : PySem.W.Frag} {f g : List D → DH → DQ → Prop} {xs : List V} {H : Hp} {Q : VK} (h : rC K (fun es H Q => f es H Q ∨ g es H Q) xs H Q) : rC K f xs H Q ∨ rC K g xs H Q := by
  obtain ⟨ds, Hd, R, h1, h2, h3, h4⟩ := h
  rcases h3 with h3 | h3
  · exact .inl ⟨ds, Hd, R, h1, h2, h3, h4⟩
  · exact .inr ⟨ds, Hd, R, h1, h2, h3, h4⟩
theorem rC_imp {K : PySem.W.Frag} {f g : List D → DH → DQ → Prop} {xs : List V} {H : Hp} {Q : VK} (i : ∀ es H Q, f es H Q → g es H Q) (h : rC K f xs H Q) : rC K g xs H Q := by
  obtain ⟨ds, Hd, R, h1, h2, h3, h4⟩ := h
  exact ⟨ds, Hd, R, h1, h2, i _ _ _ h3, h4⟩

theorem je_bin {op : Operator} (ha : JE X a ta) (hb : JE X b tb) : JE X (.BinOp a op b pos) (fun δ H Q Y => ta δ H (fun x H1 => tb δ H1 (fun y H2 => binO op x y H2 Q) Y) Y) := fun W tk =>
  PE.imp (pe_op (ob_all op) (ha W tk) (hb W tk)) fun σ H Q ⟨δ, Hd, R, Y, sr, hr, t, q, rx⟩ =>
    ⟨δ, Hd, _, Y, sr, hr, t, fun x Hd1 H1 v r1 s1 h1 i1 => ⟨δ, Hd1, _, Y, sr.sub s1, h1, r1, fun y Hd2 H2 w r2 s2 h2 i2 => ⟨x, y, Hd2, R, h2, Im.sub s2 _ _ i1, i2, r2, fun d Hd' H' v' r3 s3 h3 i3 => q d Hd' H' v' r3 ((s1.trans s2).trans s3) h3 i3⟩, rx.sub s1⟩, rx⟩
theorem rB_of {f : DH → D → D → Option Bool} {H H0 : Hp} {Hd : DH} {R : DQ} {Q : VK} {x y : D} {v w : V} (hr : HR X.K Hd H) (ix : Im X.K H x v) (iy : Im X.K H y w) (h : optP (f Hd x y) fun r => R (.bl r) Hd) (q : ∀ d Hd' H' v, R d Hd' → Sub H0 H' → HR X.K Hd' H' → Im X.K H' d v → Q v H') (s : Sub H0 H) :
    rB X.K f v w H Q := by
  obtain ⟨r, e, h⟩ := optP_some h
  exact ⟨x, y, Hd, r, hr, ix, iy, e, q _ _ _ _ h s hr (by simp only [Im])⟩
theorem je_cmp (g : GOk G X) {op : CmpOp} (ha : JE X a ta) (hb : JE X b tb) (hm : behindInMarks op b = false) : JE X (.Compare a [op] [b] pos) (fun δ H Q Y => ta δ H (fun x H1 => tb δ H1 (fun y H2 => optP (cmpO op H2 x y) fun r => Q (.bl r) H2) Y) Y) := fun W tk =>
  PE.imp (pe_cmpR (oc_all g.hu op) (ha W tk) (hb W tk) hm) fun σ H Q ⟨δ, Hd, R, Y, sr, hr, t, q, rx⟩ =>
    ⟨δ, Hd, _, Y, sr, hr, t, fun x Hd1 H1 v r1 s1 h1 i1 => ⟨δ, Hd1, _, Y, sr.sub s1, h1, r1, fun y Hd2 H2 w r2 s2 h2 i2 => rB_of h2 (Im.sub s2 _ _ i1) i2 r2 q (s1.trans s2), rx.sub s1⟩, rx⟩
theorem jt_cmp (g : GOk G X) {op : CmpOp} (ha : JE X a ta) (hb : JE X b tb) (hm : behindInMarks op b = false) : JT X (.Compare a [op] [b] pos) (fun δ H Q Y => ta δ H (fun x H1 => tb δ H1 (fun y H2 => optP (cmpO op H2 x y) fun r => Q r H2) Y) Y) := fun W tk =>
  PT.imp (pt_cmpR (oc_all g.hu op) (ha W tk) (hb W tk) hm) fun σ H Q ⟨δ, Hd, R, Y, sr, hr, t, q, rx⟩ =>
    ⟨δ, Hd, _, Y, sr, hr, t, fun x Hd1 H1 v r1 s1 h1 i1 => ⟨δ, Hd1, _, Y, sr.sub s1, h1, r1, fun y Hd2 H2 w r2 s2 h2 i2 => by
      obtain ⟨r, e, r2⟩ := optP_some r2
      exact ⟨x, y, Hd2, r, h2, Im.sub s2 _ _ i1, i2, e, r, rfl, q _ _ _ r2 (s1.trans s2) h2⟩, rx.sub s1⟩, rx⟩
theorem je_chn (g : GOk G X) {o1 o2 : CmpOp} (ha : JE X a ta) (hb : JE X b tb) (hc : JE X c tc) (hm : lastMarks [o1, o2] [b, c] = false) : JE X (.Compare a [o1, o2] [b, c] pos) (fun δ H Q Y => ta δ H (fun x H1 => tb δ H1 (fun y H2 => optP (cmpO o1 H2 x y) fun r => match r with
    | false => Q (.bl false) H2
    | true => tc δ H2 (fun z H3 => optP (cmpO o2 H3 y z) fun r => Q (.bl r) H3) Y) Y) Y) := fun W tk =>
  PE.imp (pe_chain (oc_all g.hu o1) (oc_all g.hu o2) (ha W tk) (hb W tk) (hc W tk) hm) fun σ H Q ⟨δ, Hd, R, Y, sr, hr, t, q, rx⟩ =>
    ⟨δ, Hd, _, Y, sr, hr, t, fun x Hd1 H1 v r1 s1 h1 i1 => ⟨δ, Hd1, _, Y, sr.sub s1, h1, r1, fun y Hd2 H2 w r2 s2 h2 i2 => by
      obtain ⟨r, e, r2⟩ := optP_some r2
      refine ⟨x, y, Hd2, r, h2, Im.sub s2 _ _ i1, i2, e, r, rfl, ?_⟩
      cases r with
      | false => exact q _ _ _ _ r2 (s1.trans s2) h2 (by simp only [Im])
      | true => exact ⟨δ, Hd2, _, Y, sr.sub (s1.trans s2), h2, r2, fun z Hd3 H3 u r3 s3 h3 i3 => rB_of h3 (Im.sub s3 _ _ i2) i3 r3 q ((s1.trans s2).trans s3), rx.sub (s1.trans s2)⟩, rx.sub s1⟩, rx⟩
theorem jt_chn (g : GOk G X) {o1 o2 : CmpOp} (ha : JE X a ta) (hb : JE X b tb) (hc : JE X c tc) (hm : lastMarks [o1, o2] [b, c] = false) : JT X (.Compare a [o1, o2] [b, c] pos) (fun δ H Q Y => ta δ H (fun x H1 => tb δ H1 (fun y H2 => optP (cmpO o1 H2 x y) fun r => match r with
    | false => Q false H2
    | true => tc δ H2 (fun z H3 => optP (cmpO o2 H3 y z) fun r => Q r H3) Y) Y) Y) := fun W tk =>
  PT.imp (pt_chain (oc_all g.hu o1) (oc_all g.hu o2) (ha W tk) (hb W tk) (hc W tk) hm) fun σ H Q ⟨δ, Hd, R, Y, sr, hr, t, q, rx⟩ =>
    ⟨δ, Hd, _, Y, sr, hr, t, fun x Hd1 H1 v r1 s1 h1 i1 => ⟨δ, Hd1, _, Y, sr.sub s1, h1, r1, fun y Hd2 H2 w r2 s2 h2 i2 => by
      obtain ⟨r, e, r2⟩ := optP_some r2
      refine ⟨x, y, Hd2, r, h2, Im.sub s2 _ _ i1, i2, e, r, rfl, ?_⟩
      cases r with
      | false => exact ⟨false, rfl, q _ _ _ r2 (s1.trans s2) h2⟩
      | true => exact ⟨δ, Hd2, _, Y, sr.sub (s1.trans s2), h2, r2, fun z Hd3 H3 u r3 s3 h3 i3 => by
          obtain ⟨r, e, r3⟩ := optP_some r3
          exact ⟨y, z, Hd3, r, h3, Im.sub s3 _ _ i2, i3, e, r, rfl, q _ _ _ r3 ((s1.trans s2).trans s3) h3⟩, rx.sub (s1.trans s2)⟩, rx.sub s1⟩, rx⟩
/-- a test by the value's truth -/
theorem jt_tru (ha : JE X a ta) (he : ∀ whole, isTrue a X.env whole = (do let v ← whole; standAt a.pos; holding [v] (truthy v))) : JT X a (fun δ H Q Y => ta δ H (fun x H1 => optP (tru H1 x) fun r => Q r H1) Y) := fun W tk =>
  PT.imp (pt_truth (ha W tk) he) fun σ H Q ⟨δ, Hd, R, Y, sr, hr, t, q, rx⟩ =>
    ⟨δ, Hd, _, Y, sr, hr, t, fun x Hd1 H1 v r1 s1 h1 i1 => by
      obtain ⟨r, e, r1⟩ := optP_some r1
      exact ⟨r, truV_of h1 i1 e, q _ _ _ r1 s1 h1⟩, rx⟩
end
end CT

/-! CT7: more expressions put together. -/
namespace CT
open PySem PySem.Spec PyProof.Rows L2
section
variable {X : Cx} {G : Gam} {a b c o : Expr} {es : List Expr} {ta tb tc : DTE} {tes : DTA} {qa qb : DTT} {pos : Pos}
theorem je_var {i : Nat} {x : Str} (hN : X.N[i]? = some x) (hv : Vis X.env.scope x) (hd : (x == ("__debug__" : Str)) = false) (hcd : (x == ("__classdict__" : Str)) = false) :
    JE X (.Name x pos) (fun δ H Q Y => match δ[i]? with
      | some (some v) => Q v H
      | _ => False) := fun W tk =>
  PE.imp (pe_var hN hv hd hcd) fun σ H Q ⟨δ, Hd, R, Y, sr, hr, t, q, rx⟩ => by
    dsimp only at t
    split at t
    · rename_i v e
      obtain ⟨w, e1, e2⟩ := sr.get i v e
      exact ⟨w, e1, q _ _ _ _ t (Sub.refl H) hr e2⟩
    · exact t.elim
theorem je_con {d : D} {v : V} (he : PE X a (tC v)) (hi : ∀ H, Im X.K H d v) : JE X a (fun δ H Q Y => Q d H) := fun W tk =>
  PE.imp he fun σ H Q ⟨δ, Hd, R, Y, sr, hr, t, q, rx⟩ => q _ _ _ _ t (Sub.refl H) hr (hi H)
theorem je_glb (g : GOk G X) {x : Str} (hg : Gl X x) (hd : (x == ("__debug__" : Str)) = false) : JE X (.Name x pos) (fun δ H Q Y => optP (G.gv x) fun v => Q v H) := fun W tk => by
  cases e : G.gv x with
  | none => exact PE.imp (t := fun _ _ _ => False) ⟨fun _ _ _ _ _ _ h => h.elim⟩ fun σ H Q ⟨δ, Hd, R, Y, sr, hr, t, q, rx⟩ => t
  | some d =>
    obtain ⟨u, hm, v, r, im⟩ := g.gv x d e
    exact PE.imp (pe_glob hg hm r hd) fun σ H Q ⟨δ, Hd, R, Y, sr, hr, t, q, rx⟩ => q _ _ _ _ t (Sub.refl H) hr (im H)
theorem je_ty (g : GOk G X) {x : Str} {n : String} (hg : Gl X x) (hm : (x, Value.type n) ∈ bnames) : JE X (.Name x pos) (fun δ H Q Y => Q (.ty n) H) :=
  je_con (v := .ty n) (pe_bltn hg (g.blt _ hm) (bboot hm).1 rfl (bboot hm).2.1 (bboot hm).2.2) fun H => by simp only [Im]
theorem je_usub (ha : JE X a ta) : JE X (.UnaryOp .USub a pos) (fun δ H Q Y => ta δ H (fun x H1 => match x with
    | .int i => Q (.int (-i)) H1
    | _ => False) Y) := fun W tk =>
  PE.imp (pe_un un_neg (ha W tk)) fun σ H Q ⟨δ, Hd, R, Y, sr, hr, t, q, rx⟩ =>
    ⟨δ, Hd, _, Y, sr, hr, t, fun x Hd1 H1 v r1 s1 h1 i1 => by
      cases x with
      | int i =>
        simp only [Im] at i1
        exact ⟨i, i1, q _ _ _ _ r1 s1 h1 (by simp only [Im])⟩
      | _ => exact r1.elim, rx⟩
theorem je_not (ha : JE X a ta) : JE X (.UnaryOp .Not a pos) (fun δ H Q Y => ta δ H (fun x H1 => optP (tru H1 x) fun r => Q (.bl (!r)) H1) Y) := fun W tk =>
  PE.imp (pe_notT (ha W tk)) fun σ H Q ⟨δ, Hd, R, Y, sr, hr, t, q, rx⟩ =>
    ⟨δ, Hd, _, Y, sr, hr, t, fun x Hd1 H1 v r1 s1 h1 i1 => by
      obtain ⟨r, e, r1⟩ := optP_some r1
      exact ⟨r, truV_of h1 i1 e, q _ _ _ _ r1 s1 h1 (by simp only [Im])⟩, rx⟩
theorem je_and {p : List Expr} (ha : JE X a ta) (hb : JE X (.BoolOp .And (b :: p) pos) tb) : JE X (.BoolOp .And (a :: b :: p) pos) (fun δ H Q Y => ta δ H (fun x H1 => optP (tru H1 x) fun r => match r with
    | true => tb δ H1 Q Y
    | false => Q x H1) Y) := fun W tk =>
  PE.imp (pe_andT (ha W tk) (hb W tk)) fun σ H Q ⟨δ, Hd, R, Y, sr, hr, t, q, rx⟩ =>
    ⟨δ, Hd, _, Y, sr, hr, t, fun x Hd1 H1 v r1 s1 h1 i1 => by
      obtain ⟨r, e, r1⟩ := optP_some r1
      refine ⟨r, truV_of h1 i1 e, ?_⟩
      cases r with
      | true => exact ⟨δ, Hd1, R, Y, sr.sub s1, h1, r1, fun d Hd' H' v' r3 s3 h3 i3 => q d Hd' H' v' r3 (s1.trans s3) h3 i3, rx.sub s1⟩
      | false => exact q _ _ _ _ r1 s1 h1 i1, rx⟩
theorem je_or {p : List Expr} (ha : JE X a ta) (hb : JE X (.BoolOp .Or (b :: p) pos) tb) : JE X (.BoolOp .Or (a :: b :: p) pos) (fun δ H Q Y => ta δ H (fun x H1 => optP (tru H1 x) fun r => match r with
    | true => Q x H1
    | false => tb δ H1 Q Y) Y) := fun W tk =>
  PE.imp (pe_orT (ha W tk) (hb W tk)) fun σ H Q ⟨δ, Hd, R, Y, sr, hr, t, q, rx⟩ =>
    ⟨δ, Hd, _, Y, sr, hr, t, fun x Hd1 H1 v r1 s1 h1 i1 => by
      obtain ⟨r, e, r1⟩ := optP_some r1
      refine ⟨r, truV_of h1 i1 e, ?_⟩
      cases r with
      | false => exact ⟨δ, Hd1, R, Y, sr.sub s1, h1, r1, fun d Hd' H' v' r3 s3 h3 i3 => q d Hd' H' v' r3 (s1.trans s3) h3 i3, rx.sub s1⟩
      | true => exact q _ _ _ _ r1 s1 h1 i1, rx⟩
theorem je_one {op : BoolOp} (ha : JE X a ta) : JE X (.BoolOp op [a] pos) ta := fun W tk => pe_one (ha W tk)
theorem je_ite (hc : JT X c qa) (ha : JE X a ta) (hb : JE X b tb) : JE X (.IfExp c a b pos) (fun δ H Q Y => qa δ H (fun r H1 => match r with
    | true => ta δ H1 Q Y
    | false => tb δ H1 Q Y) Y) := fun W tk =>
  PE.imp (pe_ifExp (hc W tk) (ha W tk) (hb W tk)) fun σ H Q ⟨δ, Hd, R, Y, sr, hr, t, q, rx⟩ =>
    ⟨δ, Hd, _, Y, sr, hr, t, fun r Hd1 H1 r1 s1 h1 => by
      cases r with
      | true => exact ⟨δ, Hd1, R, Y, sr.sub s1, h1, r1, fun d Hd' H' v' r3 s3 h3 i3 => q d Hd' H' v' r3 (s1.trans s3) h3 i3, rx.sub s1⟩
      | false => exact ⟨δ, Hd1, R, Y, sr.sub s1, h1, r1, fun d Hd' H' v' r3 s3 h3 i3 => q d Hd' H' v' r3 (s1.trans s3) h3 i3, rx.sub s1⟩, rx⟩
/-! tests -/
def JW (X : Cx) (e : Expr) (t : DTT) : Prop := ∀ W, Takes X W → PW X e (tOfT X.K W t)
theorem PW.imp {e : Expr} {t t' : TT} (h : PW X e t) (i : ∀ σ H Q, t' σ H Q → t σ H Q) : PW X e t' := ⟨fun wh pins s σ H Q I q => h.run wh pins s σ H Q I (i σ H Q q)⟩
theorem JW.jt {e : Expr} {t : DTT} (h : JW X e t) : JT X e t := fun W tk => (h W tk).pt
theorem jw_and1 (ha : JT X a qa) : JW X (.BoolOp .And [a] pos) qa := fun W tk => pw_and1 (ha W tk)
theorem jw_or1 (ha : JT X a qa) : JW X (.BoolOp .Or [a] pos) qa := fun W tk => pw_or1 (ha W tk)
theorem jw_and {p : List Expr} (ha : JT X a qa) (hb : JW X (.BoolOp .And (b :: p) pos) qb) : JW X (.BoolOp .And (a :: b :: p) pos) (fun δ H Q Y => qa δ H (fun r H1 => match r with
    | true => qb δ H1 Q Y
    | false => Q false H1) Y) := fun W tk =>
  PW.imp (pw_and (ha W tk) (hb W tk)) fun σ H Q ⟨δ, Hd, R, Y, sr, hr, t, q, rx⟩ =>
    ⟨δ, Hd, _, Y, sr, hr, t, fun r Hd1 H1 r1 s1 h1 => by
      cases r with
      | true => exact ⟨δ, Hd1, R, Y, sr.sub s1, h1, r1, fun d Hd' H' r3 s3 h3 => q d Hd' H' r3 (s1.trans s3) h3, rx.sub s1⟩
      | false => exact q _ _ _ r1 s1 h1, rx⟩
theorem jw_or {p : List Expr} (ha : JT X a qa) (hb : JW X (.BoolOp .Or (b :: p) pos) qb) : JW X (.BoolOp .Or (a :: b :: p) pos) (fun δ H Q Y => qa δ H (fun r H1 => match r with
    | true => Q true H1
    | false => qb δ H1 Q Y) Y) := fun W tk =>
  PW.imp (pw_or (ha W tk) (hb W tk)) fun σ H Q ⟨δ, Hd, R, Y, sr, hr, t, q, rx⟩ =>
    ⟨δ, Hd, _, Y, sr, hr, t, fun r Hd1 H1 r1 s1 h1 => by
      cases r with
      | false => exact ⟨δ, Hd1, R, Y, sr.sub s1, h1, r1, fun d Hd' H' r3 s3 h3 => q d Hd' H' r3 (s1.trans s3) h3, rx.sub s1⟩
      | true => exact q _ _ _ r1 s1 h1, rx⟩
theorem jt_not (ha : JT X a qa) : JT X (.UnaryOp .Not a pos) (fun δ H Q Y => qa δ H (fun r H1 => Q (!r) H1) Y) := fun W tk =>
  PT.imp (pt_not (ha W tk)) fun σ H Q ⟨δ, Hd, R, Y, sr, hr, t, q, rx⟩ => ⟨δ, Hd, _, Y, sr, hr, t, fun r Hd1 H1 r1 s1 h1 => q _ _ _ r1 s1 h1, rx⟩
/-! lists of expressions -/
theorem ja_nil : JA X [] (fun δ H Q Y => Q [] H) := fun W tk => PA.imp pa_nil fun σ H Q ⟨δ, Hd, R, Y, sr, hr, t, q, rx⟩ => q _ _ _ _ t (Sub.refl H) hr ImL.nil
theorem ja_cons (ha : JE X a ta) (hb : JA X es tes) (hs : starEach (a :: es) X.env = (false, eval a X.env) :: starEach es X.env) : JA X (a :: es) (fun δ H Q Y => ta δ H (fun x H1 => tes δ H1 (fun xs H2 => Q (x :: xs) H2) Y) Y) := fun W tk =>
  PA.imp (pa_cons (ha W tk) (hb W tk) hs) fun σ H Q ⟨δ, Hd, R, Y, sr, hr, t, q, rx⟩ =>
    ⟨δ, Hd, _, Y, sr, hr, t, fun x Hd1 H1 v r1 s1 h1 i1 => ⟨δ, Hd1, _, Y, sr.sub s1, h1, r1, fun xs Hd2 H2 vs r2 s2 h2 i2 => q _ _ _ _ r2 (s1.trans s2) h2 (ImL.cons (Im.sub s2 _ _ i1) i2), rx.sub s1⟩, rx⟩
theorem je_tup {k : Nat} (h : JA X es tes) : JE X (.Tuple es k pos) (fun δ H Q Y => tes δ H (fun ds H1 => ds.length ≤ sizeLine ∧ Q (.tup ds) H1) Y) := fun W tk =>
  PE.imp (pe_tup (h W tk)) fun σ H Q ⟨δ, Hd, R, Y, sr, hr, t, q, rx⟩ =>
    ⟨δ, Hd, _, Y, sr, hr, t, fun x Hd1 H1 v r1 s1 h1 i1 => ⟨by rw [← i1.length]; exact r1.1, fun p e => q _ _ _ _ r1.2 (s1.trans (Sub.new e)) (h1.untold e) (im_tup e i1)⟩, rx⟩
theorem je_lst (h : JA X es tes) : JE X (.List es pos) (fun δ H Q Y => tes δ H (fun ds H1 => ds.length ≤ sizeLine ∧ new H1 (.lst ds) Q) Y) := fun W tk =>
  PE.imp (pe_lst (h W tk)) fun σ H Q ⟨δ, Hd, R, Y, sr, hr, t, q, rx⟩ =>
    ⟨δ, Hd, _, Y, sr, hr, t, fun x Hd1 H1 v r1 s1 h1 i1 => ⟨by rw [← i1.length]; exact r1.1, fun p e => q _ _ _ _ (r1.2 p (h1.none e)) (s1.trans (Sub.new e)) (h1.new e (or_lst e i1)) (by simp only [Im])⟩, rx⟩
theorem kq_of {H0 H : Hp} {R : DQ} {Q : VK} (q : ∀ d Hd' H' v, R d Hd' → Sub H0 H' → HR X.K Hd' H' → Im X.K H' d v → Q v H') (s : Sub H0 H) : KQ X.K H R Q := fun d Hd' H' v r s2 h i => q d Hd' H' v r (s.trans s2) h i
theorem je_idx (g : GOk G X) (ha : JE X a ta) (hb : JE X b tb) (hs : PlainIx b) : JE X (.Subscript a b pos) (fun δ H Q Y => ta δ H (fun x H1 => tb δ H1 (fun y H2 => idxO x y H2 Q) Y) Y) := fun W tk =>
  PE.imp (pe_ix (ix_all g.hu) (ha W tk) (hb W tk) hs) fun σ H Q ⟨δ, Hd, R, Y, sr, hr, t, q, rx⟩ =>
    ⟨δ, Hd, _, Y, sr, hr, t, fun x Hd1 H1 v r1 s1 h1 i1 => ⟨δ, Hd1, _, Y, sr.sub s1, h1, r1, fun y Hd2 H2 w r2 s2 h2 i2 => ⟨x, y, Hd2, R, h2, Im.sub s2 _ _ i1, i2, r2, kq_of q (s1.trans s2)⟩, rx.sub s1⟩, rx⟩
/-- a slice's part -/
abbrev DTP := DS → DH → (Option Int → DH → Prop) → DX → Prop
def tOfP (K : PySem.W.Frag) (W : WX) (t : DTP) : TO := fun σ H Q => ∃ δ Hd R X, SR K H δ σ ∧ HR K Hd H ∧ t δ Hd R X ∧ (∀ b Hd' H', R b Hd' → Sub H H' → HR K Hd' H' → Q b H') ∧ RX K W X σ H
def JP (X : Cx) (e : Option Expr) (t : DTP) : Prop := ∀ W, Takes X W → PO X e (tOfP X.K W t)
theorem PO.imp {e : Option Expr} {t t' : TO} (h : PO X e t) (i : ∀ σ H Q, t' σ H Q → t σ H Q) : PO X e t' := ⟨fun pins s σ H Q I q => h.run pins s σ H Q I (i σ H Q q)⟩
theorem jp_none : JP X none (fun δ H Q Y => Q none H) := fun W tk => PO.imp po_none fun σ H Q ⟨δ, Hd, R, Y, sr, hr, t, q, rx⟩ => q _ _ _ t (Sub.refl H) hr
theorem jp_some (ha : JE X a ta) : JP X (some a) (fun δ H Q Y => ta δ H (fun x H1 => optP (partI x) fun i => Q i H1) Y) := fun W tk =>
  PO.imp (po_some (ha W tk)) fun σ H Q ⟨δ, Hd, R, Y, sr, hr, t, q, rx⟩ =>
    ⟨δ, Hd, _, Y, sr, hr, t, fun x Hd1 H1 v r1 s1 h1 i1 => by
      cases x with
      | int i =>
        simp only [Im] at i1
        exact ⟨i, i1, q _ _ _ r1 s1 h1⟩
      | _ => exact r1.elim, rx⟩
theorem je_slc {lo hi : Option Expr} {tl th : DTP} {p2 : Pos} (ha : JE X a ta) (hl : JP X lo tl) (hh : JP X hi th) : JE X (.Subscript a (.Slice lo hi none p2) pos) (fun δ H Q Y => ta δ H (fun x H1 => tl δ H1 (fun l H2 => th δ H2 (fun h H3 => slcO x l h H3 Q) Y) Y) Y) := fun W tk =>
  PE.imp (pe_slice sl_all (ha W tk) (hl W tk) (hh W tk)) fun σ H Q ⟨δ, Hd, R, Y, sr, hr, t, q, rx⟩ =>
    ⟨δ, Hd, _, Y, sr, hr, t, fun x Hd1 H1 v r1 s1 h1 i1 => ⟨δ, Hd1, _, Y, sr.sub s1, h1, r1, fun l Hd2 H2 r2 s2 h2 => ⟨δ, Hd2, _, Y, sr.sub (s1.trans s2), h2, r2, fun h Hd3 H3 r3 s3 h3 =>
      ⟨x, Hd3, R, h3, Im.sub (s2.trans s3) _ _ i1, r3, kq_of q ((s1.trans s2).trans s3)⟩, rx.sub (s1.trans s2)⟩, rx.sub s1⟩, rx⟩
/-! calls -/
theorem je_call (g : GOk G X) {f : Str} {p : Pos} (hf : (G.fn f).isSome = true) (hg : Gl X f) (ha : JA X (a :: es) tes) (hd : (f == ("__debug__" : Str)) = false) (hs : starEach (a :: es) X.env = (false, eval a X.env) :: starEach es X.env) (hpl : (backTo pos (starEach es X.env)).any (·.1) = false) :
    JE X (.Call (.Name f p) (a :: es) [] pos) (fun δ H Q Y => tes δ H (fun ds H1 => optP (G.fn f) fun sp => sp ds H1 Q Y) Y) := fun W tk => by
  obtain ⟨sp, e⟩ := Option.isSome_iff_exists.mp hf
  obtain ⟨fa, fd, ps, k, hm, hk, F, hb, hro⟩ := g.fn f sp e
  refine PE.imp (pe_callS (fn_sub F) hro hg hm hk hb (fun σ => passAt tk σ) (ha W tk) hd hs hpl) fun σ H Q ⟨δ, Hd, R, Y, sr, hr, t, q, rx⟩ => ⟨δ, Hd, _, Y, sr, hr, t, fun ds Hd1 H1 vs r1 s1 h1 i1 => ?_, rx⟩
  rw [e] at r1
  exact ⟨ds, Hd1, R, Y, i1, h1, r1, fun d Hd' H' v r2 h2 i2 s2 => q _ _ _ _ r2 (s1.trans s2) h2 i2, fun c fs Hd' H' cls dd r2 h2 x2 s2 => rx.x c fs Hd' H' cls dd r2 (s1.trans s2) h2 x2⟩
theorem je_call0 (g : GOk G X) {f : Str} {p : Pos} (hf : (G.fn f).isSome = true) (hg : Gl X f) (hd : (f == ("__debug__" : Str)) = false) :
    JE X (.Call (.Name f p) [] [] pos) (fun δ H Q Y => optP (G.fn f) fun sp => sp [] H Q Y) := fun W tk => by
  obtain ⟨sp, e⟩ := Option.isSome_iff_exists.mp hf
  obtain ⟨fa, fd, ps, k, hm, hk, F, hb, hro⟩ := g.fn f sp e
  refine PE.imp (t := fun σ H Q => spV X.K sp [] H (fun v H' => Sub H H' → Q v H') (fun c d H' => Sub H H' → WE W σ c d H')) ⟨fun pins s σ H Q I h => ?_⟩ fun σ H Q ⟨δ, Hd, R, Y, sr, hr, t, q, rx⟩ => ?_
  · refine wpAny_Call_Name_kw (ld_glob I hg hm ?_ hd)
    exact PySem.W.callWith_K0 I.kIn hk (run_fnS (us := []) (E := fun σ => WE W σ) (fn_sub F) hro hb (passAt tk σ) I .nil h)
  · rw [e] at t
    exact ⟨[], Hd, R, Y, ImL.nil, hr, t, fun d Hd' H' v r2 h2 i2 s2 => q _ _ _ _ r2 s2 h2 i2, fun c fs Hd' H' cls dd r2 h2 x2 s2 => rx.x c fs Hd' H' cls dd r2 s2 h2 x2⟩
/-- what a built-in name holds -/
def bval : B → Str × Value
  | .len => ("len", .builtin "len")
  | .isin => ("isinstance", .builtin "isinstance")
  | .max => ("max", .builtin "max")
  | .min => ("min", .builtin "min")
  | .all => ("all", .builtin "all")
  | .any => ("any", .builtin "any")
  | .sum => ("sum", .builtin "sum")
  | .list => ("list", .type "list")
  | .tuple => ("tuple", .type "tuple")
  | .dict => ("dict", .type "dict")
  | .str => ("str", .type "str")
  | .int => ("int", .type "int")
  | .sorted => ("sorted", .builtin "sorted")
  | .set => ("set", .type "set")
  | .repr => ("repr", .builtin "repr")
theorem bval_mem (b : B) : bval b ∈ bnames := by cases b <;> simp [bval, bnames]
theorem cb_two {f : Value} {p q : List D → DH → DQ → Prop} (h1 : CallR X f (rC X.K p)) (h2 : CallR X f (rC X.K q)) {r : List D → DH → DQ → Prop} (i : ∀ es H Q, r es H Q → p es H Q ∨ q es H Q) : CallR X f (rC X.K r) :=
  CallR.imp (CallR.or h1 h2) fun xs H Q h => rC_or (rC_imp i h)
theorem cb_no {f : Value} : CallR X f (rC X.K fun _ _ _ => False) := fun pins s σ H xs us Q I r ⟨_, _, _, _, _, h, _⟩ => h.elim
def isA1 (es : List D) (H : DH) (Q : DQ) : Prop := match es with
    | [x, .ty c] => optP (match tyO H x with
      | some (.inl a) => isaB a c
      | _ => none) fun b => Q (.bl b) H
    | _ => False
def isA2 (G : Gam) (es : List D) (H : DH) (Q : DQ) : Prop := match es with
    | [x, .kls c] => optP (match tyO H x with
      | some (.inr a) => G.isa a c
      | _ => none) fun b => Q (.bl b) H
    | _ => False
theorem isin_B {es : List D} {H : DH} {Q : DQ} (h : biO G .isin es H Q) : isA1 es H Q ∨ isA2 G es H Q := by
  simp only [biO] at h
  split at h
  · rename_i x c
    unfold isinO at h
    split at h
    · rename_i a b e
      left
      simp only [isA1]
      rw [e]
      exact h
    · rename_i a b e
      right
      simp only [isA2]
      rw [e]
      exact h
    · exact h.elim
  · exact h.elim
/-- isinstance of instances of own classes -/
def IsinK (G : Gam) (X : Cx) : Prop := CallR X (.builtin "isinstance") (rC X.K (isA2 G))
theorem cb_isin1 : CallR X (.builtin "isinstance") (rC X.K isA1) := cb_isin
theorem cb_bi (g : GOk G X) (hk : IsinK G X) (b : B) : CallR X (bval b).2 (rC X.K (biO G b)) := by
  cases b with
  | len => exact cb_len
  | isin => exact cb_two cb_isin1 hk fun es H Q h => isin_B h
  | max =>
    refine cb_two (cb_max2 g.calm) (cb_max1 g.calm) fun es H Q h => ?_
    simp only [biO] at h
    split at h
    · exact .inl h
    · exact .inr h
    · exact h.elim
  | min =>
    refine cb_two (cb_min2 g.calm) (cb_min1 g.calm) fun es H Q h => ?_
    simp only [biO] at h
    split at h
    · exact .inl h
    · exact .inr h
    · exact h.elim
  | all => exact cb_all g.calm
  | any => exact cb_any g.calm
  | sum => exact cb_sum g.calm
  | list => exact cb_list
  | tuple => exact cb_tuple
  | str => exact cb_str
  | int => exact cb_int
  | _ => exact cb_no
theorem je_bc (g : GOk G X) (hk : IsinK G X) {b : B} {p : Pos} (hg : Gl X (bval b).1) (ha : JA X (a :: es) tes) (hs : starEach (a :: es) X.env = (false, eval a X.env) :: starEach es X.env) (hpl : (backTo pos (starEach es X.env)).any (·.1) = false) :
    JE X (.Call (.Name (bval b).1 p) (a :: es) [] pos) (fun δ H Q Y => tes δ H (fun ds H1 => biO G b ds H1 Q) Y) := fun W tk => by
  have hr := cb_bi g hk b
  have hm := g.blt _ (bval_mem b)
  obtain ⟨h1, h2, h3⟩ := bboot (x := (bval b).1) (u := (bval b).2) (bval_mem b)
  have key : PE X (.Call (.Name (bval b).1 p) (a :: es) [] pos) (tCB (rC X.K (biO G b)) (tOfA X.K W tes)) := by
    cases b <;> first
      | exact pe_callB hr hg hm h1 (ha W tk) h2 h3 hs hpl
      | exact pe_callTy hr hg hm h1 (ha W tk) h2 h3 hs hpl
  exact PE.imp key fun σ H Q ⟨δ, Hd, R, Y, sr, hr, t, q, rx⟩ => ⟨δ, Hd, _, Y, sr, hr, t, fun ds Hd1 H1 vs r1 s1 h1 i1 => ⟨ds, Hd1, R, h1, i1, r1, kq_of q s1⟩, rx⟩
/-! methods -/
def rM (K : PySem.W.Frag) (f : D → List D → DH → DQ → Prop) : V → List V → Hp → VK → Prop := fun x xs H Q => ∃ d ds Hd R, HR K Hd H ∧ Im K H d x ∧ ImL K H ds xs ∧ f d ds Hd R ∧ KQ K H R Q
theorem tyV_L {H : Hp} {Hd : DH} {d : D} {v : V} (hr : HR X.K Hd H) (i : Im X.K H d v) (h : isL Hd d = true) : tyV X.K "list" v H := by
  cases d with
  | ref a =>
    simp only [isL] at h
    split at h
    · rename_i xs e
      simp only [Im] at i
      subst i
      obtain ⟨vs, g, _⟩ := hr a _ e
      exact .inl ⟨rfl, vs, SqL.of g⟩
    · cases h
  | _ => simp [isL] at h
theorem tyV_S {H : Hp} {d : D} {v : V} (i : Im X.K H d v) (h : isS d = true) : tyV X.K "str" v H := by
  cases d with
  | str x =>
    simp only [Im] at i
    obtain ⟨rfl, _⟩ := i
    rfl
  | _ => simp [isS] at h
theorem mb_append : MtR X "list.append" (rM X.K fun x es H Q => bmO .append x es H Q) := by
  intro pins s σ H x xs v us Q I rx rs h
  obtain ⟨d, ds, Hd, R, hr, ix, il, h, k⟩ := h
  simp only [bmO] at h
  split at h
  · rename_i a e
    split at h
    · rename_i ys hy
      simp only [Im] at ix
      subst ix
      obtain ⟨y, rfl, iy⟩ := il.one
      obtain ⟨vs, g1, g2⟩ := hr a _ hy
      refine mt_append pins s σ H _ _ v us Q I rx rs ⟨a, vs, y, rfl, rfl, g1, by rw [← g2.length]; exact h.1, ?_⟩
      have mu : Mut (H a) := by rw [g1]; exact True.intro
      exact k _ _ _ _ h.2 (Sub.write mu) (hr.write mu ⟨_, upd_same, ImL.sub (Sub.write mu) _ _ (g2.app (ImL.cons iy ImL.nil))⟩) (by simp only [Im])
    · exact h.elim
  · exact h.elim
theorem sum_S (ys : List (List Nat)) : ((ys.map S).map (·.length)).sum = (ys.map (·.length)).sum := by
  induction ys with
  | nil => rfl
  | cons y ys ih => simp only [List.map_cons, List.sum_cons]; rw [ih, S_len]
theorem join_S (s : List Nat) (ys : List (List Nat)) : Txt.join (S s) (ys.map S) = S (TL.joinL s ys) := by
  have e := TL.tl_join (S s) (ys.map S)
  have e2 : (ys.map S).map TL.tl = ys := by
    rw [List.map_map]
    conv => rhs; rw [← List.map_id ys]
    exact List.map_congr_left fun x _ => S_list x
  rw [e2, show TL.tl (S s) = s from S_list s] at e
  rw [TL.join_eq, ← e]
  rfl
theorem asc_join {s : List Nat} (hs : asc s) : ∀ {ys : List (List Nat)}, (∀ y ∈ ys, asc y) → asc (TL.joinL s ys)
  | [], _ => by intro c hc; simp [TL.joinL] at hc
  | [y], h => h y List.mem_cons_self
  | y :: z :: r, h => by
    have ih := asc_join hs (ys := z :: r) fun w hw => h w (List.mem_cons_of_mem _ hw)
    exact asc_app (h y List.mem_cons_self) (asc_app hs ih)
theorem mb_join : MtR X "str.join" (rM X.K fun x es H Q => bmO .join x es H Q) := by
  intro pins s σ H x xs v us Q I rx rs h
  obtain ⟨d, ds, Hd, R, hr, ix, il, h, k⟩ := h
  simp only [bmO] at h
  split at h
  · rename_i z e
    obtain ⟨ys, e2, h⟩ := optP_some h
    cases e3 : sqAt Hd e with
    | none => rw [e3] at e2; cases e2
    | some l =>
      rw [e3] at e2
      obtain ⟨y, rfl, iy⟩ := il.one
      obtain ⟨a, vs, rfl, h1, h2⟩ := sqAt_of hr iy e3
      have e4 := strsD_map e2
      subst e4
      obtain ⟨e5, as⟩ := iml_strs h2
      subst e5
      simp only [Im] at ix
      obtain ⟨rfl, az⟩ := ix
      refine mt_join pins s σ H _ _ v us Q I rx rs ⟨S z, a, ys.map S, rfl, rfl, h1, by rw [sum_S, List.length_map, S_len]; exact h.1, ?_⟩
      rw [join_S]
      exact k.at_ h.2 hr (by simp only [Im]; exact ⟨trivial, asc_join az as⟩)
  · exact h.elim
end
end CT

/-! CT8: methods, what is walked, comprehensions, statements. -/
namespace CT
open PySem PySem.Spec PyProof.Rows L2
section
variable {X : Cx} {G : Gam} {a b c o : Expr} {es : List Expr} {ta tb tc : DTE} {tes : DTA} {qa qb : DTT} {pos : Pos}
theorem je_bmA {T id : String} {name : Str} {m : M} {apos : Pos} (pa : PlainAttrs T) (slot : Slot T name id) (hty : typeOf (.builtin id) = pure (.type "method_descriptor")) (hm : MtR X id (rM X.K fun x es H Q => bmO m x es H Q))
    (hT : ∀ H Hd d v, HR X.K Hd H → Im X.K H d v → bmT m d Hd = true → tyV X.K T v H) (ho : JE X o ta) (ha : JA X (a :: es) tes) (hbase : attributeBase o name X.env (eval o X.env) = eval o X.env)
    (hfew : ((backTo pos (starEach (a :: es) X.env)).all (fun x => !x.1) && (backToKw pos (keywordEach [] X.env)).all (fun x => x.1.isSome)
      && decide ((a :: es).length + ([] : List Keyword).length + (if ([] : List Keyword).isEmpty then 0 else 1) < 30)) = true)
    (hline : (apos.endLine == pos.line) = true) (hs : starEach (a :: es) X.env = (false, eval a X.env) :: starEach es X.env) (hpl : (backTo pos (starEach es X.env)).any (·.1) = false) :
    JE X (.Call (.Attribute o name apos) (a :: es) [] pos) (fun δ H Q Y => ta δ H (fun x H1 => bmT m x H1 = true ∧ tes δ H1 (fun ds H2 => bmO m x ds H2 Q) Y) Y) := fun W tk =>
  PE.imp (pe_bm pa slot hty hm (ho W tk) (ha W tk) hbase hfew hline hs hpl) fun σ H Q ⟨δ, Hd, R, Y, sr, hr, t, q, rx⟩ =>
    ⟨δ, Hd, _, Y, sr, hr, t, fun x Hd1 H1 v r1 s1 h1 i1 => ⟨hT _ _ _ _ h1 i1 r1.1, δ, Hd1, _, Y, sr.sub s1, h1, r1.2, fun ds Hd2 H2 vs r2 s2 h2 i2 => ⟨x, ds, Hd2, R, h2, Im.sub s2 _ _ i1, i2, r2, kq_of q (s1.trans s2)⟩, rx.sub s1⟩, rx⟩
/-! what is walked -/
structure ItR (K : PySem.W.Frag) (H0 : Hp) (ds : List D) (keep : DH → Prop) (J : It) : Prop where
  go : ∀ i d Hd H, ds[i]? = some d → keep Hd → HR K Hd H → Sub H0 H → J.go i H
  yld : ∀ i d Hd H x H', ds[i]? = some d → keep Hd → HR K Hd H → Sub H0 H → J.yld i H x H' → Sub H H' ∧ HR K Hd H' ∧ Im K H' d x
  stop : ∀ Hd H, keep Hd → HR K Hd H → Sub H0 H → J.stop ds.length H
def tOfI (K : PySem.W.Frag) (W : WX) (t : DI) : TI := fun σ H R => ∃ δ Hd Rd Y, SR K H δ σ ∧ HR K Hd H ∧ t δ Hd Rd Y ∧ (∀ ds keep Hd' H' J, Rd ds keep Hd' → Sub H H' → HR K Hd' H' → ItR K H' ds keep J → R J H') ∧ RX K W Y σ H
def JI (X : Cx) (tg it : Expr) (t : DI) : Prop := ∀ W, Takes X W → PI X tg it (tOfI X.K W t)
theorem PI.imp {tg it : Expr} {t t' : TI} (h : PI X tg it t) (i : ∀ σ H R, t' σ H R → t σ H R) : PI X tg it t' := ⟨fun pins s σ H R I q => h.run pins s σ H R I (i σ H R q)⟩
theorem ImL.get' {K : PySem.W.Frag} {H : Hp} {ds : List D} {vs : List V} (r : ImL K H ds vs) {i : Nat} {d : D} {v : V} (e : ds[i]? = some d) (e2 : vs[i]? = some v) : Im K H d v := by
  obtain ⟨w, h1, h2⟩ := r.get e
  rw [e2] at h1
  cases h1
  exact h2
theorem itr_tup {K : PySem.W.Frag} {H : Hp} {p : Addr} {vs : List V} {ds : List D} (h : SqT K H p vs) (r : ImL K H ds vs) : ItR K H ds (fun _ => True) (Itt K p) where
  go := fun i d Hd H' e _ _ s => by
    obtain ⟨v, e1, _⟩ := r.get e
    exact ⟨vs, v, sqT_sub s h, e1⟩
  yld := fun i d Hd H' x H2 e _ hr s y => by
    obtain ⟨rfl, y⟩ := y
    exact ⟨Sub.refl _, hr, (ImL.sub s _ _ r).get' e (y vs (sqT_sub s h))⟩
  stop := fun Hd H' _ _ s => ⟨vs, sqT_sub s h, Nat.le_of_eq r.length.symm⟩
theorem itr_cl {K : PySem.W.Frag} {H : Hp} {p : Addr} {vs : List V} {ds : List D} (h : ClL K H p vs) (r : ImL K H ds vs) : ItR K H ds (fun _ => True) (Itl K p) where
  go := fun i d Hd H' e _ _ s => by
    obtain ⟨v, e1, _⟩ := r.get e
    exact ⟨vs, v, (clL_sub s h).sq, e1⟩
  yld := fun i d Hd H' x H2 e _ hr s y => by
    obtain ⟨rfl, y⟩ := y
    exact ⟨Sub.refl _, hr, (ImL.sub s _ _ r).get' e (y vs (clL_sub s h).sq)⟩
  stop := fun Hd H' _ _ s => ⟨vs, (clL_sub s h).sq, Nat.le_of_eq r.length.symm⟩
theorem itr_ref {K : PySem.W.Frag} {H : Hp} {p : Addr} {ds : List D} : ItR K H ds (fun Hd => Hd p = some (.lst ds)) (Itl K p) where
  go := fun i d Hd H' e k hr s => by
    obtain ⟨vs, g1, g2⟩ := hr p _ k
    obtain ⟨v, e1, _⟩ := g2.get e
    exact ⟨vs, v, SqL.of g1, e1⟩
  yld := fun i d Hd H' x H2 e k hr s y => by
    obtain ⟨rfl, y⟩ := y
    obtain ⟨vs, g1, g2⟩ := hr p _ k
    exact ⟨Sub.refl _, hr, g2.get' e (y vs (SqL.of g1))⟩
  stop := fun Hd H' k hr s => by
    obtain ⟨vs, g1, g2⟩ := hr p _ k
    exact ⟨vs, SqL.of g1, Nat.le_of_eq g2.length.symm⟩
theorem itr_str {K : PySem.W.Frag} {H : Hp} {z : List Nat} (az : asc z) : ItR K H (z.map fun c => D.str [c]) (fun _ => True) (Its (S z)) where
  go := fun i d Hd H' e _ _ s => by
    have l : i < (z.map fun c => D.str [c]).length := (List.getElem?_eq_some_iff.mp e).1
    show i < (S z).cps.size
    simpa [S] using l
  yld := fun i d Hd H' x H2 e _ hr s y => by
    obtain ⟨rfl, cc, h1, rfl⟩ := y
    have h1 : z[i]? = some cc := by simpa [S] using h1
    rw [List.getElem?_map, h1] at e
    cases e
    refine ⟨Sub.refl _, hr, ?_⟩
    simp only [Im]
    refine ⟨rfl, fun c' hc => ?_⟩
    have e1 : c' = cc := by simpa using hc
    subst e1
    exact az c' (List.mem_of_getElem? h1)
  stop := fun Hd H' _ _ s => by
    show (S z).cps.size ≤ _
    simp [S]
theorem rngL_len (lo : Int) : ∀ n, (rngL lo n).length = n := fun n => by
  induction n generalizing lo with
  | zero => rfl
  | succ n ih => simp only [rngL, List.length_cons]; rw [ih]
theorem rngL_get : ∀ (n i : Nat) (lo : Int), i < n → (rngL lo n)[i]? = some (.int (lo + i))
  | 0, i, lo, h => absurd h (Nat.not_lt_zero _)
  | n + 1, 0, lo, h => by simp [rngL]
  | n + 1, i + 1, lo, h => by
    simp only [rngL, List.getElem?_cons_succ]
    rw [rngL_get n i (lo + 1) (by omega)]
    congr 2
    omega
theorem itr_rng {K : PySem.W.Frag} {H : Hp} {lo : Int} {n : Nat} : ItR K H (rngL lo n) (fun _ => True) (Itr lo n) where
  go := fun i d Hd H' e _ _ s => by
    have l : i < (rngL lo n).length := (List.getElem?_eq_some_iff.mp e).1
    rw [rngL_len] at l
    exact l
  yld := fun i d Hd H' x H2 e _ hr s y => by
    obtain ⟨rfl, rfl⟩ := y
    have l : i < (rngL lo n).length := (List.getElem?_eq_some_iff.mp e).1
    rw [rngL_len] at l
    rw [rngL_get n i lo l] at e
    cases e
    exact ⟨Sub.refl _, hr, by simp only [Im]⟩
  stop := fun Hd H' _ _ s => by
    show n ≤ (rngL lo n).length
    rw [rngL_len]
    exact Nat.le_refl _
theorem ji_seq {tg : Expr} (ha : JE X a ta) : JI X tg a (fun δ H R Y => ta δ H (fun x H1 => seqO x H1 R) Y) := fun W tk => by
  refine ⟨fun pins s σ H R I ⟨δ, Hd, Rd, Y, sr, hr, t, q, rx⟩ => ?_⟩
  refine thn ((ha W tk).run pins s σ H (fun v H1 => ∃ x Hd1, Im X.K H1 x v ∧ HR X.K Hd1 H1 ∧ Sub H H1 ∧ seqO x Hd1 Rd) I ⟨δ, Hd, _, Y, sr, hr, t, fun x Hd1 H1 v r1 s1 h1 i1 => ⟨x, Hd1, i1, h1, s1, r1⟩, rx⟩) fun u s1 ⟨v, H1, I1, r1, x, Hd1, i1, h1, sb, m⟩ => ?_
  cases x with
  | tup ds =>
    simp only [Im] at i1
    obtain ⟨p, vs, rfl, g1, g2⟩ := i1
    cases r1
    obtain ⟨its, rv, pl, hz⟩ := I1.tuple g1
    exact wpAny_pyIter_tuple (show s1.heap.IsTuple p its.toArray from pl) (pi_one (tk := s1.toks) I1 _ (turn_tuple p _) ⟨_, Heap.get?_push_size _ rfl, rfl, rfl⟩ (q _ _ _ _ _ m sb h1 (itr_tup g1 g2)))
  | cl ds =>
    simp only [Im] at i1
    obtain ⟨p, vs, rfl, g1, g2⟩ := i1
    cases r1
    obtain ⟨its, rv, pl, hz⟩ := I1.list g1.sq
    exact wpAny_pyIter_list pl.isList (pi_one (tk := s1.toks) I1 _ (turn_list p _) ⟨_, Heap.get?_push_size _ rfl, rfl, rfl⟩ (q _ _ _ _ _ m sb h1 (itr_cl g1 g2)))
  | str z =>
    simp only [Im] at i1
    obtain ⟨rfl, az⟩ := i1
    obtain ⟨tk1, rfl⟩ := r1
    have hz : ∀ c ∈ z, c < 128 := az
    have hall : (S z).cps.all (· < 128) = true := by
      rw [Array.all_eq_true']
      intro c hc
      have h2 := az c (by simpa [S] using hc)
      simpa using h2
    exact wpAny_pyIter_ascii hall (pi_one (tk := s1.toks) I1 _ (turn_str _ (S z) tk1 "str_ascii_iterator" (.inl rfl)) ⟨_, Heap.get?_push_size _ rfl, rfl, rfl⟩ (q _ _ _ _ _ m.2 sb h1 (itr_str az)))
  | ref p =>
    simp only [seqO] at m
    split at m
    · rename_i ds hd
      simp only [Im] at i1
      subst i1
      cases r1
      obtain ⟨vs, g1, g2⟩ := h1 p _ hd
      obtain ⟨its, rv, pl, hz⟩ := I1.list (SqL.of g1)
      exact wpAny_pyIter_list pl.isList (pi_one (tk := s1.toks) I1 _ (turn_list p _) ⟨_, Heap.get?_push_size _ rfl, rfl, rfl⟩ (q _ _ _ _ _ m sb h1 itr_ref))
    · exact m.elim
  | _ => exact m.elim
theorem ji_rng1 (g : GOk G X) {tg : Expr} {p : Pos} (hg : Gl X "range") (ha : JE X a ta) (hs : starEach [a] X.env = (false, eval a X.env) :: starEach [] X.env) : JI X tg (.Call (.Name "range" p) [a] [] pos) (fun δ H R Y => ta δ H (fun x H1 => rng1O x H1 R) Y) := fun W tk =>
  PI.imp (pi_range1 hg (g.blt ("range", .type "range") (by simp [bnames])) (ja_cons ha ja_nil hs W tk) hs) fun σ H R ⟨δ, Hd, Rd, Y, sr, hr, t, q, rx⟩ =>
    ⟨δ, Hd, (fun ds Hd1 => ∃ x, ds = [x] ∧ rng1O x Hd1 Rd), Y, sr, hr, by
      dsimp only
      have e : (fun x H1 => ∃ z, [x] = [z] ∧ rng1O z H1 Rd) = (fun x H1 => rng1O x H1 Rd) := by
        funext x H1
        apply propext
        exact ⟨fun ⟨z, e, h⟩ => by cases e; exact h, fun h => ⟨x, rfl, h⟩⟩
      rw [e]
      exact t, fun ds Hd1 H1 vs r1 s1 h1 i1 => by
      obtain ⟨x, rfl, r1⟩ := r1
      obtain ⟨v, rfl, iv⟩ := i1.one
      cases x with
      | int j =>
        simp only [Im] at iv
        subst iv
        exact ⟨j, rfl, r1.1.1, r1.1.2, q _ _ _ _ _ r1.2 s1 h1 itr_rng⟩
      | _ => exact r1.elim, rx⟩
theorem ji_rng2 (g : GOk G X) {tg : Expr} {p : Pos} (hg : Gl X "range") (ha : JE X a ta) (hb : JE X b tb) (hs : starEach [a, b] X.env = (false, eval a X.env) :: starEach [b] X.env) (hs2 : starEach [b] X.env = (false, eval b X.env) :: starEach [] X.env) : JI X tg (.Call (.Name "range" p) [a, b] [] pos) (fun δ H R Y => ta δ H (fun x H1 => tb δ H1 (fun y H2 => rng2O x y H2 R) Y) Y) := fun W tk =>
  PI.imp (pi_range2 hg (g.blt ("range", .type "range") (by simp [bnames])) (ja_cons ha (ja_cons hb ja_nil hs2) hs W tk) (hs.trans (by rw [hs2]; rfl)) hs2) fun σ H R ⟨δ, Hd, Rd, Y, sr, hr, t, q, rx⟩ =>
    ⟨δ, Hd, (fun ds Hd1 => ∃ x y, ds = [x, y] ∧ rng2O x y Hd1 Rd), Y, sr, hr, by
      dsimp only
      have e : (fun x H1 => tb δ H1 (fun y H2 => ∃ z w, x :: [y] = [z, w] ∧ rng2O z w H2 Rd) Y) = (fun x H1 => tb δ H1 (fun y H2 => rng2O x y H2 Rd) Y) := by
        funext x H1
        congr 1
        funext y H2
        apply propext
        exact ⟨fun ⟨z, w, e, h⟩ => by cases e; exact h, fun h => ⟨x, y, rfl, h⟩⟩
      rw [e]
      exact t, fun ds Hd1 H1 vs r1 s1 h1 i1 => by
      obtain ⟨x, y, rfl, r1⟩ := r1
      obtain ⟨v, w, rfl, iv, iw⟩ := i1.two
      cases x with
      | int i =>
        cases y with
        | int j =>
          simp only [Im] at iv iw
          subst iv iw
          exact ⟨i, j, rfl, r1.1, q _ _ _ _ _ r1.2 s1 h1 itr_rng⟩
        | _ => exact r1.elim
      | _ => exact r1.elim, rx⟩
theorem enumL_get : ∀ (ds : List D) (i n : Nat), (enumL n ds)[i]? = ds[i]?.map fun d => .tup [.int ((n + i : Nat) : Int), d]
  | [], i, n => by simp [enumL]
  | d :: ds, 0, n => by simp [enumL]
  | d :: ds, i + 1, n => by
    simp only [enumL, List.getElem?_cons_succ]
    rw [enumL_get ds i (n + 1), show n + 1 + i = n + (i + 1) by omega]
theorem enumL_len : ∀ (ds : List D) (n : Nat), (enumL n ds).length = ds.length
  | [], n => rfl
  | d :: ds, n => by simp only [enumL, List.length_cons]; rw [enumL_len ds]
theorem ite_yld {K : PySem.W.Frag} {H' : Hp} {p : Addr} {vs : List V} {ds : List D} {i : Nat} {d : D} {Hd : DH} {x : V} {H2 : Hp} (g : SqL K H' p vs) (r : ImL K H' ds vs) (e : (enumL 0 ds)[i]? = some d) (hr : HR K Hd H') (y : (Ite K p).yld i H' x H2) : Sub H' H2 ∧ HR K Hd H2 ∧ Im K H2 d x := by
  obtain ⟨T, v, rfl, hT, rfl, hv⟩ := y
  rw [enumL_get] at e
  cases e2 : ds[i]? with
  | none => rw [e2] at e; cases e
  | some d0 =>
    rw [e2] at e
    cases e
    have hv2 := hv vs g
    have im := r.get' e2 hv2
    refine ⟨Sub.new hT, hr.untold hT, im_tup hT (ImL.cons ?_ (ImL.cons im ImL.nil))⟩
    simp only [Im, Nat.zero_add]
theorem itr_enR {K : PySem.W.Frag} {H : Hp} {p : Addr} {ds : List D} : ItR K H (enumL 0 ds) (fun Hd => Hd p = some (.lst ds)) (Ite K p) where
  go := fun i d Hd H' e k hr s => by
    obtain ⟨vs, g1, g2⟩ := hr p _ k
    have l : i < (enumL 0 ds).length := (List.getElem?_eq_some_iff.mp e).1
    rw [enumL_len, g2.length] at l
    exact ⟨vs, _, SqL.of g1, List.getElem?_eq_getElem l⟩
  yld := fun i d Hd H' x H2 e k hr s y => by
    obtain ⟨vs, g1, g2⟩ := hr p _ k
    exact ite_yld (SqL.of g1) g2 e hr y
  stop := fun Hd H' k hr s => by
    obtain ⟨vs, g1, g2⟩ := hr p _ k
    exact ⟨vs, SqL.of g1, by rw [enumL_len, g2.length]; exact Nat.le_refl _⟩
theorem itr_enC {K : PySem.W.Frag} {H : Hp} {p : Addr} {vs : List V} {ds : List D} (h : ClL K H p vs) (r : ImL K H ds vs) : ItR K H (enumL 0 ds) (fun _ => True) (Ite K p) where
  go := fun i d Hd H' e k hr s => by
    have l : i < (enumL 0 ds).length := (List.getElem?_eq_some_iff.mp e).1
    rw [enumL_len, r.length] at l
    exact ⟨vs, _, (clL_sub s h).sq, List.getElem?_eq_getElem l⟩
  yld := fun i d Hd H' x H2 e k hr s y => ite_yld (clL_sub s h).sq (ImL.sub s _ _ r) e hr y
  stop := fun Hd H' k hr s => ⟨vs, (clL_sub s h).sq, by rw [enumL_len, r.length]; exact Nat.le_refl _⟩
theorem ji_enum (g : GOk G X) {elts : List Expr} {kk : Nat} {tpos p : Pos} (hg : Gl X "enumerate") (ha : JE X a ta) (hs : starEach [a] X.env = (false, eval a X.env) :: starEach [] X.env) : JI X (.Tuple elts kk tpos) (.Call (.Name "enumerate" p) [a] [] pos) (fun δ H R Y => ta δ H (fun x H1 => enumO x H1 R) Y) := fun W tk =>
  PI.imp (pi_enum hg (g.blt ("enumerate", .type "enumerate") (by simp [bnames])) (ja_cons ha ja_nil hs W tk) hs) fun σ H R ⟨δ, Hd, Rd, Y, sr, hr, t, q, rx⟩ =>
    ⟨δ, Hd, (fun ds Hd1 => ∃ x, ds = [x] ∧ enumO x Hd1 Rd), Y, sr, hr, by
      dsimp only
      have e : (fun x H1 => ∃ z, [x] = [z] ∧ enumO z H1 Rd) = (fun x H1 => enumO x H1 Rd) := by
        funext x H1
        apply propext
        exact ⟨fun ⟨z, e, h⟩ => by cases e; exact h, fun h => ⟨x, rfl, h⟩⟩
      rw [e]
      exact t, fun ds Hd1 H1 vs r1 s1 h1 i1 => by
      obtain ⟨x, rfl, r1⟩ := r1
      obtain ⟨v, rfl, iv⟩ := i1.one
      cases x with
      | cl ds =>
        simp only [Im] at iv
        obtain ⟨p, us, rfl, g1, g2⟩ := iv
        exact ⟨p, us, rfl, g1.sq, q _ _ _ _ _ r1 s1 h1 (itr_enC g1 g2)⟩
      | ref p =>
        simp only [enumO] at r1
        split at r1
        · rename_i ds hd
          simp only [Im] at iv
          subst iv
          obtain ⟨us, g1, g2⟩ := h1 p _ hd
          exact ⟨p, us, rfl, SqL.of g1, q _ _ _ _ _ r1 s1 h1 itr_enR⟩
        · exact r1.elim
      | _ => exact r1.elim, rx⟩
/-! targets -/
structure Kp (sl : List Nat) (σ σ' : L2.St) : Prop where
  len : σ'.length = σ.length
  get : ∀ j, j ∉ sl → σ'[j]? = σ[j]?
theorem Kp.refl (sl : List Nat) (σ : L2.St) : Kp sl σ σ := ⟨rfl, fun _ _ => rfl⟩
theorem Kp.trans {sl sm : List Nat} {σ σ1 σ2 : L2.St} (h : Kp sl σ σ1) (k : Kp sm σ1 σ2) : Kp (sl ++ sm) σ σ2 :=
  ⟨k.len.trans h.len, fun j hj => by
    rw [List.mem_append, not_or] at hj
    exact (k.get j hj.2).trans (h.get j hj.1)⟩
abbrev DTG := D → DS → DH → (DS → DH → Prop) → Prop
abbrev DTGs := List D → DS → DH → (DS → DH → Prop) → Prop
def tOfG (K : PySem.W.Frag) (sl : List Nat) (g : DTG) : TG := fun v σ H Q => ∃ δ Hd R d, SR K H δ σ ∧ HR K Hd H ∧ Im K H d v ∧ g d δ Hd R ∧ ∀ δ' Hd' σ' H', R δ' Hd' → Sub H H' → SR K H' δ' σ' → HR K Hd' H' → Kp sl σ σ' → Q σ' H'
def tOfGs (K : PySem.W.Frag) (sl : List Nat) (g : DTGs) : TGs := fun vs σ H Q => ∃ δ Hd R ds, SR K H δ σ ∧ HR K Hd H ∧ ImL K H ds vs ∧ g ds δ Hd R ∧ ∀ δ' Hd' σ' H', R δ' Hd' → Sub H H' → SR K H' δ' σ' → HR K Hd' H' → Kp sl σ σ' → Q σ' H'
def JG (X : Cx) (tg : Expr) (sl : List Nat) (g : DTG) : Prop := PG X tg (tOfG X.K sl g)
def JGs (X : Cx) (tg : List Expr) (sl : List Nat) (g : DTGs) : Prop := PGs X tg (tOfGs X.K sl g)
theorem PG.imp {tg : Expr} {t t' : TG} (h : PG X tg t) (i : ∀ v σ H Q, t' v σ H Q → t v σ H Q) : PG X tg t' := ⟨fun pins s σ H v u Q I r q => h.run pins s σ H v u Q I r (i v σ H Q q)⟩
theorem PGs.imp {tg : List Expr} {t t' : TGs} (h : PGs X tg t) (i : ∀ v σ H Q, t' v σ H Q → t v σ H Q) : PGs X tg t' := ⟨fun pins s σ H v u Q I r q => h.run pins s σ H v u Q I r (i v σ H Q q)⟩
theorem jg_name {i : Nat} {x : Str} (hN : X.N.Nodup) (hi : X.N[i]? = some x) (hx : Loc X.env.scope x) (hf : X.fn x = true ∨ X.env.scope.names.lookup x = some .local) : JG X (.Name x pos) [i] (fun v δ H Q => Q (δ.set i (some v)) H) :=
  PG.imp (pg_name hN hi hx hf) fun v σ H Q ⟨δ, Hd, R, d, sr, hr, im, t, q⟩ => q _ _ _ _ t (Sub.refl H) (sr.set i im) hr ⟨by simp, fun j hj => by
    rw [List.mem_singleton] at hj
    rw [List.getElem?_set_ne (fun e => hj e.symm)]⟩
theorem jgs_nil : JGs X [] [] (fun vs δ H Q => vs = [] ∧ Q δ H) :=
  PGs.imp pgs_nil fun v σ H Q ⟨δ, Hd, R, ds, sr, hr, im, t, q⟩ => by
    obtain ⟨rfl, t⟩ := t
    simp only [ImL] at im
    exact ⟨im, q _ _ _ _ t (Sub.refl H) sr hr (Kp.refl _ _)⟩
theorem jgs_cons {sl sm : List Nat} {e : Expr} {es : List Expr} {g : DTG} {u : DTGs} (h1 : JG X e sl g) (h2 : JGs X es sm u) (hs : (assignEach (e :: es) X.env).map (·.2) = assign e X.env :: (assignEach es X.env).map (·.2)) : JGs X (e :: es) (sl ++ sm) (fun vs δ H Q => match vs with
    | v :: r => g v δ H fun δ1 H1 => u r δ1 H1 Q
    | [] => False) :=
  PGs.imp (pgs_cons h1 h2 hs) fun v σ H Q ⟨δ, Hd, R, ds, sr, hr, im, t, q⟩ => by
    cases ds with
    | nil => exact t.elim
    | cons d ds =>
      simp only [ImL] at im
      obtain ⟨w, ws, rfl, i1, i2⟩ := im
      exact ⟨w, ws, rfl, δ, Hd, _, d, sr, hr, i1, t, fun δ1 Hd1 σ1 H1 r1 s1 sr1 hr1 k1 => ⟨δ1, Hd1, R, ds, sr1, hr1, ImL.sub s1 _ _ i2, r1, fun δ2 Hd2 σ2 H2 r2 s2 sr2 hr2 k2 => q _ _ _ _ r2 (s1.trans s2) sr2 hr2 (k1.trans k2)⟩⟩
theorem jg_tup {sl : List Nat} {es : List Expr} {k : Nat} {u : DTGs} (hc : X.calm = true) (h : JGs X es sl u) (hn : (assignEach es X.env).length = es.length) (hst : (assignEach es X.env).findIdx? (·.1) = none) : JG X (.Tuple es k pos) sl (fun v δ H Q => match v with
    | .tup vs => vs.length = es.length ∧ u vs δ H Q
    | _ => False) :=
  PG.imp (pg_tup hc h hn hst) fun v σ H Q ⟨δ, Hd, R, d, sr, hr, im, t, q⟩ => by
    cases d with
    | tup ds =>
      simp only [Im] at im
      obtain ⟨a, vs, rfl, i1, i2⟩ := im
      exact ⟨a, vs, rfl, i1, by rw [← i2.length]; exact t.1, δ, Hd, R, ds, sr, hr, i2, t.2, q⟩
    | _ => exact t.elim
end
end CT

/-! CT9: stores into things, comprehensions, statements. -/
namespace CT
open PySem PySem.Spec PyProof.Rows L2
section
variable {X : Cx} {G : Gam} {a b c o e : Expr} {es : List Expr} {ta tb tc te : DTE} {tes : DTA} {qa qb : DTT} {pos : Pos} {st : Stmt} {rest : List Stmt} {t u : DTS}
/-! o[i] = v -/
def rSetO (K : PySem.W.Frag) : TSet := fun o i v H Q => ∃ x y z Hd R, HR K Hd H ∧ Im K H x o ∧ Im K H y i ∧ Im K H z v ∧ setO x y z Hd R ∧ ∀ Hd' H', R Hd' → Sub H H' → HR K Hd' H' → Q H'
theorem set_all (g : GOk G X) : PSet X (rSetO X.K) := by
  intro pins s σ H o i v ov iv u Q I ro ri rv ⟨x, y, z, Hd, R, hr, ix, iy, iz, h, q⟩
  cases x with
  | ref p =>
    simp only [setO] at h
    simp only [Im] at ix
    subst ix
    split at h
    · rename_i xs hx
      obtain ⟨vs, g1, g2⟩ := hr p _ hx
      cases y with
      | int k =>
        simp only [Im] at iy
        subst iy
        obtain ⟨j, e, h⟩ := optP_some h
        have mu : Mut (H p) := by rw [g1]; exact True.intro
        exact set_list pins s σ H _ _ v ov iv u Q I ro ri rv ⟨p, vs, k, j, rfl, rfl, g1, by rw [← g2.length]; exact e, q _ _ h (Sub.write mu) (hr.write mu ⟨_, upd_same, ImL.sub (Sub.write mu) _ _ (g2.set iz j)⟩)⟩
      | _ => exact h.elim
    · rename_i kvs hx
      obtain ⟨vs, g1, g2⟩ := hr p _ hx
      obtain ⟨h1, h2, h⟩ := h
      obtain ⟨k, hk, ek⟩ := keyR_of iy h1
      subst ek
      have mu : Mut (H p) := by rw [g1]; exact True.intro
      exact set_dict (Nat.lt_of_le_of_lt (by omega) g.hu) pins s σ H _ _ v ov iv u Q I ro ri rv ⟨p, _, rfl, DPut.k g1 (by rw [← g2.len]; exact h2), q _ _ h (Sub.write mu) (hr.write mu ⟨_, upd_same, (g2.sub (Sub.write mu)).put hk (Im.sub (Sub.write mu) _ _ iz)⟩)⟩
    · exact h.elim
  | _ => exact h.elim
theorem takesN : Takes X (fun _ _ _ _ => False) := takes0
theorem rxN {K : PySem.W.Frag} {W : WX} {σ : L2.St} {H : Hp} : RX K W noX σ H := ⟨fun _ _ _ _ _ _ h => h.elim⟩
theorem jg_sub (g : GOk G X) {i : Expr} {ti : DTE} (ho : JE X o ta) (hi : JE X i ti) (ha : ∀ v, assign (.Subscript o i pos) X.env v = (do
      let ov ← holding [v] (eval o X.env)
      let iv ← holding [v, ov] (eval i X.env)
      standAt pos
      holding [v, ov, iv] (setItem ov iv v)
      release [v, ov, iv] [])) : JG X (.Subscript o i pos) [] (fun v δ H Q => ta δ H (fun x H1 => ti δ H1 (fun y H2 => setO x y v H2 fun H3 => Q δ H3) noX) noX) :=
  PG.imp (pg_sub (ho _ takesN) (hi _ takesN) (set_all g) ha) fun v σ H Q ⟨δ, Hd, R, d, sr, hr, im, t, q⟩ =>
    ⟨δ, Hd, _, noX, sr, hr, t, fun x Hd1 H1 xv r1 s1 h1 i1 => ⟨δ, Hd1, _, noX, sr.sub s1, h1, r1, fun y Hd2 H2 yv r2 s2 h2 i2 =>
      ⟨x, y, d, Hd2, _, h2, Im.sub s2 _ _ i1, i2, Im.sub (s1.trans s2) _ _ im, r2, fun Hd3 H3 r3 s3 h3 => q _ _ _ _ r3 ((s1.trans s2).trans s3) (sr.sub ((s1.trans s2).trans s3)) h3 (Kp.refl _ _)⟩, rxN⟩, rxN⟩

theorem je_dic : JE X (.Dict [] [] pos) (fun δ H Q Y => new H (.dic []) Q) := fun W tk =>
  PE.imp pe_dnewK fun σ H Q ⟨δ, Hd, R, Y, sr, hr, t, q, rx⟩ => fun p e => q _ _ _ _ (t p (hr.none e)) (Sub.new e) (hr.new e ⟨_, upd_same, .nil⟩) (by simp only [Im])
/-! comprehensions -/
theorem wipe_get {σ : L2.St} {j : Nat} : ∀ {vs : List Nat}, (wipe σ vs)[j]? = if j ∈ vs then (if j < σ.length then some none else none) else σ[j]?
  | [] => by simp [wipe]
  | v :: vs => by
    show ((wipe σ vs).set v none)[j]? = _
    by_cases z : v = j
    · subst z
      rw [if_pos List.mem_cons_self]
      by_cases l : v < σ.length
      · rw [if_pos l, List.getElem?_set_self (by rw [wipe_length]; exact l)]
      · rw [if_neg l, List.getElem?_eq_none (by simpa [wipe_length] using l)]
    · rw [List.getElem?_set_ne z, wipe_get]
      by_cases m : j ∈ vs
      · rw [if_pos m, if_pos (List.mem_cons_of_mem _ m)]
      · rw [if_neg m, if_neg (fun q => by
          rcases List.mem_cons.mp q with q | q
          · exact z q.symm
          · exact m q)]
theorem wipe_kp {sl vs : List Nat} {σ σ2 : L2.St} (h : Kp sl (wipe σ vs) σ2) (hs : ∀ i ∈ sl, i ∈ vs) : wipe σ2 vs = wipe σ vs := by
  refine List.ext_getElem? fun j => ?_
  have hl := h.len
  rw [wipe_length] at hl
  rw [wipe_get, wipe_get, hl]
  by_cases m : j ∈ vs
  · rw [if_pos m, if_pos m]
  · rw [if_neg m, if_neg m, h.get j (fun q => m (hs j q)), wipe_get, if_neg m]
theorem SR.wipe {K : PySem.W.Frag} {H : Hp} {δ : DS} {σ : L2.St} (h : SR K H δ σ) : ∀ vs, SR K H (wipeD δ vs) (L2.wipe σ vs)
  | [] => h
  | v :: vs => (h.wipe vs).unset v
def JC (X : Cx) (ifs : List Expr) (t : DTT) : Prop := ∀ W, Takes X W → PTs X ifs (tOfT X.K W t)
theorem PTs.imp {ifs : List Expr} {t t' : TT} (h : PTs X ifs t) (i : ∀ σ H Q, t' σ H Q → t σ H Q) : PTs X ifs t' := ⟨fun pins s σ H Q I q => h.run pins s σ H Q I (i σ H Q q)⟩
theorem jc_nil : JC X [] (fun δ H Q Y => Q true H) := fun W tk => PTs.imp pts_nil fun σ H Q ⟨δ, Hd, R, Y, sr, hr, t, q, rx⟩ => q _ _ _ t (Sub.refl H) hr
theorem jc_one (h : JT X c qa) : JC X [c] qa := fun W tk => pts_one (h W tk)
theorem lc_step {K : PySem.W.Frag} {σ : L2.St} {H H1 : Hp} {Hd1 : DH} {δ : DS} {sl vs : List Nat} {ds : List D} {keep : DH → Prop} {J : It} {g : DTG} {tc : DTT} {te : DTE} {p : Addr} {R : DQ} {Q : VK} (sr : SR K H δ σ) (s1 : Sub H H1) (h1 : HR K Hd1 H1) (it : ItR K H1 ds keep J) (hp : H1 p = none) (hsl : ∀ i ∈ sl, i ∈ vs)
    (r : lcGo keep g tc te p (wipeD δ vs) (fun H2 => R (.ref p) H2) ds [] (ud Hd1 p (.lst []))) (q : ∀ d Hd' H' v, R d Hd' → Sub H H' → HR K Hd' H' → Im K H' d v → Q v H') :
    ∃ W : Nat → Nat → Hp → Prop, (∃ m, W 0 m (upd H1 p (.lst []))) ∧ ∀ i m H, W i m H →
      (J.stop i H ∧ Q (.ref p) H) ∨ (J.go i H ∧ ∃ Nx : Hp → Prop, (∀ H', Nx H' → ∃ m', m' < m ∧ W (i + 1) m' H') ∧ ∀ x H', J.yld i H x H' → tOfG K sl g x (wipe σ vs) H' fun σ2 H2 => wipe σ2 vs = wipe σ vs ∧ tOfT K (fun _ _ _ _ => False) tc σ2 H2 fun b H3 =>
        if b = true then tOf K (fun _ _ _ _ => False) te σ2 H3 fun y H4 => ∃ acc, H4 p = some (.lst acc) ∧ acc.length < sizeLine ∧ Nx (upd H4 p (.lst (acc ++ [y]))) else Nx H3) := by
  refine ⟨fun i m H' => m = ds.length - i ∧ i ≤ ds.length ∧ ∃ acc Hd', HR K Hd' H' ∧ Sub H1 H' ∧ lcGo keep g tc te p (wipeD δ vs) (fun H2 => R (.ref p) H2) (ds.drop i) acc Hd', ⟨ds.length, by simp, Nat.zero_le _, [], _, h1.new hp (or_lst hp ImL.nil), Sub.new hp, r⟩, ?_⟩
  rintro i m H' ⟨rfl, hi, acc, Hd', hr, sb, r⟩
  by_cases hlt : i < ds.length
  · rw [List.drop_eq_getElem_cons hlt] at r
    have hget : ds[i]? = some ds[i] := List.getElem?_eq_getElem hlt
    simp only [lcGo] at r
    obtain ⟨k, r⟩ := r
    refine .inr ⟨it.go i _ _ _ hget k hr sb, fun H2 => ∃ acc Hd', HR K Hd' H2 ∧ Sub H1 H2 ∧ lcGo keep g tc te p (wipeD δ vs) (fun H2 => R (.ref p) H2) (ds.drop (i + 1)) acc Hd', fun H2 n => ⟨ds.length - (i + 1), by omega, rfl, hlt, n⟩, fun x H2 y => ?_⟩
    obtain ⟨s2, h2, im⟩ := it.yld i _ _ _ _ _ hget k hr sb y
    refine ⟨_, _, _, _, (sr.sub (s1.trans (sb.trans s2))).wipe vs, h2, im, r, fun δ3 Hd3 σ3 H3 r3 s3 sr3 hr3 k3 => ⟨wipe_kp k3 hsl, δ3, Hd3, _, noX, sr3, hr3, r3, fun b Hd4 H4 r4 s4 h4 => ?_, rxN⟩⟩
    cases b with
    | true =>
      rw [if_pos rfl]
      refine ⟨δ3, Hd4, _, noX, sr3.sub s4, h4, r4, fun y Hd5 H5 v r5 s5 h5 i5 => ?_, rxN⟩
      obtain ⟨e5, l5, r5⟩ := r5
      obtain ⟨us, g1, g2⟩ := h5 p _ e5
      have mu : Mut (H5 p) := by rw [g1]; exact True.intro
      exact ⟨us, g1, by rw [← g2.length]; exact l5, _, _, h5.write (u := .lst (acc ++ [y])) mu ⟨_, upd_same, ImL.sub (Sub.write mu) _ _ (g2.app (ImL.cons i5 ImL.nil))⟩, (((sb.trans s2).trans s3).trans s4).trans (s5.trans (Sub.write mu)), r5⟩
    | false =>
      rw [if_neg Bool.false_ne_true]
      exact ⟨acc, Hd4, h4, ((sb.trans s2).trans s3).trans s4, r4⟩
  · have e : i = ds.length := by omega
    subst e
    rw [List.drop_length] at r
    simp only [lcGo] at r
    obtain ⟨k, e1, r⟩ := r
    exact .inl ⟨it.stop _ _ k hr sb, q _ _ _ _ r (s1.trans sb) hr (by simp only [Im])⟩
abbrev lcT (own : List Nat) (ti : DI) (g : DTG) (tc : DTT) (te : DTE) : DTE := fun δ H Q Y => ti δ H (fun ds keep H1 => ∀ p, H1 p = none → lcGo keep g tc te p (wipeD δ own) (fun H2 => Q (.ref p) H2) ds [] (ud H1 p (.lst []))) Y
variable {elt tg iter : Expr} {ifs : List Expr} {scope : Scope} {own : List (Str × Nat)} {ti : DI} {gt : DTG} {sl : List Nat}
theorem je_lc (g : GOk G X) (hN : X.N.Nodup) (hi : JI X tg iter ti) (ok : BlkOk X.N X.env.scope scope own) (hg : ∀ (s : Shared) (H : Hp) (C : Addr) (cl : List (Str × Addr)) (fp : List Addr), JG (X.blk s H scope (compEnvC scope cl C X.env) fp) tg sl gt)
    (ht : ∀ (s : Shared) (H : Hp) (C : Addr) (cl : List (Str × Addr)) (fp : List Addr), JC (X.blk s H scope (compEnvC scope cl C X.env) fp) ifs qa)
    (he : ∀ (s : Shared) (H : Hp) (C : Addr) (cl : List (Str × Addr)) (fp : List Addr), JE (X.blk s H scope (compEnvC scope cl C X.env) fp) elt te) (hsl : ∀ i ∈ sl, i ∈ own.map (·.2)) (hs : ∀ x, foldedSetIterable iter X.env x = pure x) :
    JE X (.ListComp elt [⟨tg, iter, ifs, 0⟩] scope pos) (lcT (own.map (·.2)) ti gt qa te) := fun W tk =>
  PE.imp (pe_lc g.calm hN (hi W tk) ok (g := tOfG X.K sl gt) hg (fun s H C cl fp => ht s H C cl fp _ takesN) (fun s H C cl fp => he s H C cl fp _ takesN) hs) fun σ H Q ⟨δ, Hd, R, Y, sr, hr, t, q, rx⟩ =>
    ⟨δ, Hd, _, Y, sr, hr, t, fun ds keep Hd1 H1 J r1 s1 h1 it p hp => lc_step sr s1 h1 it hp hsl (r1 p (h1.none hp)) q, rx⟩

/-! statements -/
theorem ER.rx {K : PySem.W.Frag} {W : WX} {E : DE} {F : Ends} {δ : DS} {σ : L2.St} {H : Hp} (er : ER K W H E F) (sr : SR K H δ σ) : RX K W (fun c fs Hd' => E.ex c fs δ Hd') σ H :=
  ⟨fun c fs Hd' H' cls dd x s h xr => er.ex c fs δ Hd' cls dd σ H' x s (sr.sub s) h xr⟩
theorem js_nil : JSs X [] (fun E δ H => E.nx δ H) := fun W tk => PSs.imp pss_nil fun D σ H ⟨δ, Hd, E, sr, hr, t, er⟩ => er.nx _ _ _ _ t (Sub.refl _) sr hr
theorem js_cons (h1 : JS X st t) (h2 : JSs X rest u) : JSs X (st :: rest) (fun E δ H => t { E with nx := fun δ1 H1 => u E δ1 H1 } δ H) := fun W tk =>
  PSs.imp (pss_cons (h1 W tk) (h2 W tk)) fun D σ H ⟨δ, Hd, E, sr, hr, t, er⟩ => ⟨δ, Hd, _, sr, hr, t, { er with nx := fun δ1 Hd1 σ1 H1 n s1 sr1 hr1 => ⟨δ1, Hd1, E, sr1, hr1, n, er.sub s1⟩ }⟩
theorem js_asg {tg : Expr} {gt : DTG} {sl : List Nat} (he : JE X e te) (hg : JG X tg sl gt) (hs : swapsWithSole [tg] e pos.line X.env = pure false) (hw : swappedStores [tg] e X.env = pure none) (h1 : (assignEach [tg] X.env).map (·.2) = [assign tg X.env]) :
    JS X (.Assign [tg] e pos) (fun E δ H => te δ H (fun v H1 => gt v δ H1 E.nx) (fun c fs H1 => E.ex c fs δ H1)) := fun W tk =>
  PS.imp (ps_asg (he W tk) hg hs hw h1) fun D σ H ⟨δ, Hd, E, sr, hr, t, er⟩ => ⟨δ, Hd, _, _, sr, hr, t, fun d Hd1 H1 v r1 s1 h1 i1 => ⟨δ, Hd1, _, d, sr.sub s1, h1, i1, r1, fun δ2 Hd2 σ2 H2 r2 s2 sr2 hr2 _ => er.nx _ _ _ _ r2 (s1.trans s2) sr2 hr2⟩, er.rx sr⟩
theorem js_lcAsg (g : GOk G X) {i : Nat} {y : Str} {py spos : Pos} (hN : X.N.Nodup) (hy : X.N[i]? = some y) (hyl : X.env.scope.names.lookup y = some .local) (hsw : swapsWith (.ListComp elt [⟨tg, iter, ifs, 0⟩] scope pos) (some (.Name y py)) spos.line X.env = pure true)
    (hi : JI X tg iter ti) (ok : BlkOk X.N X.env.scope scope own) (hg : ∀ (s : Shared) (H : Hp) (C : Addr) (cl : List (Str × Addr)) (fp : List Addr), JG (X.blk s H scope (compEnvC scope cl C X.env) fp) tg sl gt)
    (ht : ∀ (s : Shared) (H : Hp) (C : Addr) (cl : List (Str × Addr)) (fp : List Addr), JC (X.blk s H scope (compEnvC scope cl C X.env) fp) ifs qa)
    (he : ∀ (s : Shared) (H : Hp) (C : Addr) (cl : List (Str × Addr)) (fp : List Addr), JE (X.blk s H scope (compEnvC scope cl C X.env) fp) elt te) (hsl : ∀ i ∈ sl, i ∈ own.map (·.2)) (hs : ∀ x, foldedSetIterable iter X.env x = pure x) :
    JS X (.Assign [.Name y py] (.ListComp elt [⟨tg, iter, ifs, 0⟩] scope pos) spos) (fun E δ H => lcT (own.map (·.2)) ti gt qa te δ H (fun v H1 => E.nx (δ.set i (some v)) H1) (fun c fs H1 => E.ex c fs δ H1)) := fun W tk =>
  PS.imp (ps_setLc g.calm hN hy hyl hsw (hi W tk) ok (g := tOfG X.K sl gt) hg (fun s H C cl fp => ht s H C cl fp _ takesN) (fun s H C cl fp => he s H C cl fp _ takesN) hs) fun D σ H ⟨δ, Hd, E, sr, hr, t, er⟩ =>
    ⟨δ, Hd, _, _, sr, hr, t, fun ds keep Hd1 H1 J r1 s1 h1 it p hp => lc_step (R := fun d Hd2 => E.nx (δ.set i (some d)) Hd2) sr s1 h1 it hp hsl (r1 p (h1.none hp)) fun d Hd' H' v r s h im => er.nx _ _ _ _ r s ((sr.sub s).set i im) h, er.rx sr⟩
def rAug (K : PySem.W.Frag) (op : Operator) : TIp := fun x y H Q => ∃ a b Hd R, HR K Hd H ∧ Im K H a x ∧ Im K H b y ∧ augO op a b Hd R ∧ KQ K H R Q
theorem aug_all (op : Operator) : PIp X op (rAug X.K op) := by
  intro pins s σ H x y v u Q I rx ry ⟨a, b, Hd, R, hr, ia, ib, h, k⟩
  cases op with
  | Add =>
    simp only [augO] at h
    split at h
    · rename_i i j
      simp only [Im] at ia ib
      subst ia ib
      exact ip_add pins s σ H _ _ v u Q I rx ry ⟨i, j, rfl, rfl, k.at_ h hr (by simp only [Im])⟩
    · rename_i i j
      simp only [Im] at ia ib
      obtain ⟨rfl, aa⟩ := ia
      obtain ⟨rfl, ab⟩ := ib
      exact iop_add_str pins s σ H _ _ v u Q I rx ry ⟨S i, S j, rfl, rfl, by rw [S_len, S_len]; exact h.1, k.at_ h.2 hr (by simp only [Im]; exact ⟨congrArg V.str (S_app _ _), asc_app aa ab⟩)⟩
    · exact h.elim
  | Sub =>
    simp only [augO] at h
    split at h
    · rename_i i j
      simp only [Im] at ia ib
      subst ia ib
      exact ip_sub pins s σ H _ _ v u Q I rx ry ⟨i, j, rfl, rfl, k.at_ h hr (by simp only [Im])⟩
    · exact h.elim
  | _ => exact h.elim
theorem js_aug {i : Nat} {x : Str} {op : Operator} {pos' : Pos} (hN : X.N.Nodup) (hi : X.N[i]? = some x) (hx : Loc X.env.scope x) (he : JE X e te) (hf : X.fn x = true ∨ X.env.scope.names.lookup x = some .local) :
    JS X (.AugAssign (.Name x pos') op e pos) (fun E δ H => match δ[i]? with
      | some (some v) => te δ H (fun y H1 => augO op v y H1 fun z H2 => E.nx (δ.set i (some z)) H2) (fun c fs H1 => E.ex c fs δ H1)
      | _ => False) := fun W tk =>
  PS.imp (ps_aug hN hi hx (he W tk) (aug_all op) hf) fun D σ H ⟨δ, Hd, E, sr, hr, t, er⟩ => by
    dsimp only at t
    split at t
    · rename_i v ev
      obtain ⟨w, e1, e2⟩ := sr.get i v ev
      exact ⟨w, e1, δ, Hd, _, _, sr, hr, t, fun y Hd1 H1 yv r1 s1 h1 i1 => ⟨v, y, Hd1, _, h1, Im.sub s1 _ _ e2, i1, r1, fun z Hd2 H2 zv r2 s2 h2 i2 => er.nx _ _ _ _ r2 (s1.trans s2) ((sr.sub (s1.trans s2)).set i i2) h2⟩, er.rx sr⟩
    · exact t.elim
theorem js_exp (he : JE X e te) (hs : swapsWith e none pos.line X.env = pure false) : JS X (.Expr e pos) (fun E δ H => te δ H (fun _ H1 => E.nx δ H1) (fun c fs H1 => E.ex c fs δ H1)) := fun W tk =>
  PS.imp (ps_expr (he W tk) hs) fun D σ H ⟨δ, Hd, E, sr, hr, t, er⟩ => ⟨δ, Hd, _, _, sr, hr, t, fun d Hd1 H1 v r1 s1 h1 i1 => er.nx _ _ _ _ r1 s1 (sr.sub s1) h1, er.rx sr⟩
theorem js_ret (he : JE X e te) : JS X (.Return (some e) pos) (fun E δ H => te δ H E.rt (fun c fs H1 => E.ex c fs δ H1)) := fun W tk =>
  PS.imp (ps_ret (he W tk)) fun D σ H ⟨δ, Hd, E, sr, hr, t, er⟩ => ⟨δ, Hd, _, _, sr, hr, t, fun d Hd1 H1 v r1 s1 h1 i1 => er.rt _ _ _ _ r1 s1 h1 i1, er.rx sr⟩
theorem js_retN : JS X (.Return none pos) (fun E δ H => E.rt .non H) := fun W tk =>
  PS.imp ps_retN fun D σ H ⟨δ, Hd, E, sr, hr, t, er⟩ => er.rt _ _ _ _ t (Sub.refl _) hr (by simp only [Im])
theorem js_pass : JS X (.Pass pos) (fun E δ H => E.nx δ H) := fun W tk => PS.imp ps_pass fun D σ H ⟨δ, Hd, E, sr, hr, t, er⟩ => er.nx _ _ _ _ t (Sub.refl _) sr hr
theorem js_brk : JS X (.Break pos) (fun E δ H => E.bk δ H) := fun W tk => PS.imp ps_break fun D σ H ⟨δ, Hd, E, sr, hr, t, er⟩ => er.bk _ _ _ _ t (Sub.refl _) sr hr
theorem js_cnt : JS X (.Continue pos) (fun E δ H => E.ct δ H) := fun W tk => PS.imp ps_continue fun D σ H ⟨δ, Hd, E, sr, hr, t, er⟩ => er.ct _ _ _ _ t (Sub.refl _) sr hr
theorem js_if {p q : List Stmt} (hc : JT X c qa) (ha : JSs X p t) (hb : JSs X q u) : JS X (.If c p q pos) (fun E δ H => qa δ H (fun r H1 => match r with
    | true => t E δ H1
    | false => u E δ H1) (fun c fs H1 => E.ex c fs δ H1)) := fun W tk =>
  PS.imp (ps_if (hc W tk) (ha W tk) (hb W tk)) fun D σ H ⟨δ, Hd, E, sr, hr, t, er⟩ => ⟨δ, Hd, _, _, sr, hr, t, fun r Hd1 H1 r1 s1 h1 => by
    cases r with
    | true => exact ⟨δ, Hd1, E, sr.sub s1, h1, r1, er.sub s1⟩
    | false => exact ⟨δ, Hd1, E, sr.sub s1, h1, r1, er.sub s1⟩, er.rx sr⟩
theorem js_while {p : List Stmt} (hp : PassesOwn (model X.prog X.w) X.A X.env X.xe) (hc : JT X c qa) (hb : JSs X p t) : JS X (.While c p [] pos) (fun E δ H => ∃ W : Nat → DS → DH → Prop, (∃ m, W m δ H) ∧ ∀ m δ H, W m δ H → qa δ H (fun r H1 => match r with
    | true => t { E with nx := fun δ2 H2 => ∃ m', m' < m ∧ W m' δ2 H2, ct := fun δ2 H2 => ∃ m', m' < m ∧ W m' δ2 H2, bk := E.nx } δ H1
    | false => E.nx δ H1) (fun c fs H1 => E.ex c fs δ H1)) := fun W tk =>
  PS.imp (ps_while hp (hc W tk) (hb W tk)) fun D σ H ⟨δ, Hd, E, sr, hr, ⟨V, ⟨m0, w0⟩, step⟩, er⟩ =>
    ⟨fun m σ H' => ∃ δ Hd, SR X.K H' δ σ ∧ HR X.K Hd H' ∧ Sub H H' ∧ V m δ Hd, ⟨m0, δ, Hd, sr, hr, Sub.refl _, w0⟩, fun m σ1 H1 ⟨δ1, Hd1, sr1, hr1, s1, w1⟩ => ⟨δ1, Hd1, _, _, sr1, hr1, step m δ1 Hd1 w1, fun r Hd2 H2 r2 s2 h2 => by
      cases r with
      | true =>
        rw [if_pos rfl]
        exact ⟨fun σ' H' => ∃ m', m' < m ∧ ∃ δ Hd, SR X.K H' δ σ' ∧ HR X.K Hd H' ∧ Sub H H' ∧ V m' δ Hd, fun σ' H' h => h, δ1, Hd2, _, sr1.sub s2, h2, r2, { er.sub (s1.trans s2) with nx := fun δ3 Hd3 σ3 H3 ⟨m', hm, w3⟩ s3 sr3 hr3 => ⟨m', hm, δ3, Hd3, sr3, hr3, (s1.trans s2).trans s3, w3⟩, ct := fun δ3 Hd3 σ3 H3 ⟨m', hm, w3⟩ s3 sr3 hr3 => ⟨m', hm, δ3, Hd3, sr3, hr3, (s1.trans s2).trans s3, w3⟩, bk := (er.sub (s1.trans s2)).nx }⟩
      | false =>
        rw [if_neg Bool.false_ne_true]
        exact er.nx _ _ _ _ r2 (s1.trans s2) (sr1.sub s2) h2, (er.sub s1).rx sr1⟩⟩
theorem js_for (g : GOk G X) {p : List Stmt} (hp : PassesOwn (model X.prog X.w) X.A X.env X.xe) (hi : JI X tg iter ti) (hg : JG X tg sl gt) (hb : JSs X p t) (hs : ∀ x, foldedSetIterable iter X.env x = pure x) :
    JS X (.For tg iter p [] pos) (fun E δ H => ti δ H (fun ds keep H1 => forGo keep gt t E ds δ H1) (fun c fs H1 => E.ex c fs δ H1)) := fun W tk =>
  PS.imp (ps_for hp g.calm (hi W tk) hg (hb W tk) hs) fun D σ H ⟨δ, Hd, E, sr, hr, t0, er⟩ =>
    ⟨δ, Hd, _, _, sr, hr, t0, fun ds keep Hd1 H1 J r1 s1 h1 it => by
      refine ⟨fun i m σ H => m = ds.length - i ∧ i ≤ ds.length ∧ ∃ δ Hd, SR X.K H δ σ ∧ HR X.K Hd H ∧ Sub H1 H ∧ forGo keep gt t E (ds.drop i) δ Hd, ⟨ds.length, by simp, Nat.zero_le _, δ, Hd1, sr.sub s1, h1, Sub.refl _, r1⟩, ?_⟩
      rintro i m σ2 H2 ⟨rfl, hi, δ2, Hd2, sr2, hr2, sb, r⟩
      by_cases hlt : i < ds.length
      · rw [List.drop_eq_getElem_cons hlt] at r
        have hget : ds[i]? = some ds[i] := List.getElem?_eq_getElem hlt
        simp only [forGo] at r
        obtain ⟨k, r⟩ := r
        refine .inr ⟨it.go i _ _ _ hget k hr2 sb, fun σ' H' => ∃ δ Hd, SR X.K H' δ σ' ∧ HR X.K Hd H' ∧ Sub H1 H' ∧ forGo keep gt t E (ds.drop (i + 1)) δ Hd, fun σ' H' n => ⟨ds.length - (i + 1), by omega, rfl, hlt, n⟩, fun x H3 y => ?_⟩
        obtain ⟨s3, h3, im⟩ := it.yld i _ _ _ _ _ hget k hr2 sb y
        have s14 := fun H4 (s4 : Sub H3 H4) => s1.trans ((sb.trans s3).trans s4)
        exact ⟨δ2, Hd2, _, _, sr2.sub s3, h3, im, r, fun δ4 Hd4 σ4 H4 r4 s4 sr4 hr4 _ => ⟨δ4, Hd4, { E with nx := fun δ Hd => forGo keep gt t E (ds.drop (i + 1)) δ Hd, ct := fun δ Hd => forGo keep gt t E (ds.drop (i + 1)) δ Hd, bk := E.nx }, sr4, hr4, r4,
          { er.sub (s14 H4 s4) with nx := fun δ5 Hd5 σ5 H5 n s5 sr5 hr5 => ⟨δ5, Hd5, sr5, hr5, ((sb.trans s3).trans s4).trans s5, n⟩, ct := fun δ5 Hd5 σ5 H5 n s5 sr5 hr5 => ⟨δ5, Hd5, sr5, hr5, ((sb.trans s3).trans s4).trans s5, n⟩, bk := (er.sub (s14 H4 s4)).nx }⟩⟩
      · have e : i = ds.length := by omega
        subst e
        rw [List.drop_length] at r
        simp only [forGo] at r
        exact .inl ⟨it.stop _ _ r.1 hr2 sb, er.nx _ _ _ _ r.2 (s1.trans sb) sr2 hr2⟩, er.rx sr⟩
end
end CT

/-! CT10: from the text to code. -/
namespace CT
open PySem PySem.Spec PyProof.Rows L2

structure Cc where
  N : List Str
  sc : Scope
  fnp : Str → Bool
  fns : List Str
def ixOf : List Str → Str → Option Nat
  | [], _ => none
  | y :: r, x => if y = x then some 0 else (ixOf r x).map (· + 1)
theorem ixOf_get : ∀ {N : List Str} {x : Str} {i : Nat}, ixOf N x = some i → N[i]? = some x
  | [], _, _, h => by cases h
  | y :: r, x, i, h => by
    unfold ixOf at h
    split at h
    · rename_i e
      cases h
      simp [e]
    · cases e : ixOf r x with
      | none => rw [e] at h; cases h
      | some j =>
        rw [e] at h
        cases h
        simpa using ixOf_get e
def visB (sc : Scope) (x : Str) : Bool := match sc.names.lookup x with
  | some .local => true
  | some .cell => true
  | some .free => true
  | _ => false
def locB (sc : Scope) (x : Str) : Bool := match sc.names.lookup x with
  | some .local => true
  | _ => false
def stoB (c : Cc) (x : Str) : Bool := match c.sc.names.lookup x with
  | some .local => true
  | some .cell => c.fnp x
  | _ => false
def glB (sc : Scope) (x : Str) : Bool := match sc.names.lookup x with
  | some .globalImplicit => true
  | _ => false
theorem visB_ok {sc : Scope} {x : Str} (h : visB sc x = true) : Vis sc x := by
  unfold visB at h
  unfold Vis
  split at h <;> simp_all
theorem locB_ok {sc : Scope} {x : Str} (h : locB sc x = true) : sc.names.lookup x = some .local := by
  unfold locB at h
  split at h <;> simp_all
theorem glB_ok {sc : Scope} {x : Str} (h : glB sc x = true) : sc.names.lookup x = some .globalImplicit := by
  unfold glB at h
  split at h <;> simp_all
def okN (x : Str) : Bool := !(x == ("__debug__" : Str)) && !(x == ("__classdict__" : Str))
theorem okN_ok {x : Str} (h : okN x = true) : (x == ("__debug__" : Str)) = false ∧ (x == ("__classdict__" : Str)) = false := by
  unfold okN at h
  simpa using h
def tyN : List (Str × String) := [("str", "str"), ("int", "int"), ("bool", "bool"), ("list", "list"), ("tuple", "tuple"), ("dict", "dict")]
theorem tyN_ok : (tyN.all fun p => decide ((p.1, Value.type p.2) ∈ bnames)) = true := by decide +kernel
def bNm : List (Str × B) := [("len", .len), ("isinstance", .isin), ("max", .max), ("min", .min), ("all", .all), ("any", .any), ("sum", .sum), ("list", .list), ("tuple", .tuple), ("str", .str), ("int", .int)]
theorem bNm_ok : (bNm.all fun p => decide ((bval p.2).1 = p.1)) = true := by decide +kernel
def mNm : List (Str × M) := [("append", .append), ("join", .join)]
theorem look_mem {α β : Type} [BEq α] [LawfulBEq α] {l : List (α × β)} {x : α} {y : β} (h : l.lookup x = some y) : (x, y) ∈ l := by
  induction l with
  | nil => cases h
  | cons p l ih =>
    obtain ⟨a, b⟩ := p
    rw [List.lookup_cons] at h
    split at h
    · rename_i e
      have e := eq_of_beq e
      cases h
      rw [e]
      exact List.mem_cons_self
    · exact List.mem_cons_of_mem _ (ih h)
def o1 {α : Type} (f : C → α) (a : Option C) : Option α := match a with
  | some x => some (f x)
  | none => none
def o2 {α β γ : Type} (f : α → β → γ) (a : Option α) (b : Option β) : Option γ := match a, b with
  | some x, some y => some (f x y)
  | _, _ => none
def o3 {α β γ δ : Type} (f : α → β → γ → δ) (a : Option α) (b : Option β) (c : Option γ) : Option δ := match a, b, c with
  | some x, some y, some z => some (f x y z)
  | _, _, _ => none
def gd {α : Type} (b : Bool) (a : Option α) : Option α := match b with
  | true => a
  | false => none
theorem o1_i {α : Type} {f : C → α} {a : Option C} {k : α} (h : o1 f a = some k) : ∃ x, a = some x ∧ k = f x := by
  unfold o1 at h
  split at h
  · cases h; exact ⟨_, rfl, rfl⟩
  · cases h
theorem o2_i {α β γ : Type} {f : α → β → γ} {a : Option α} {b : Option β} {k : γ} (h : o2 f a b = some k) : ∃ x y, a = some x ∧ b = some y ∧ k = f x y := by
  unfold o2 at h
  split at h
  · cases h; exact ⟨_, _, rfl, rfl, rfl⟩
  · cases h
theorem o3_i {α β γ δ : Type} {f : α → β → γ → δ} {a : Option α} {b : Option β} {c : Option γ} {k : δ} (h : o3 f a b c = some k) : ∃ x y z, a = some x ∧ b = some y ∧ c = some z ∧ k = f x y z := by
  unfold o3 at h
  split at h
  · cases h; exact ⟨_, _, _, rfl, rfl, rfl, rfl⟩
  · cases h
theorem gd_i {α : Type} {b : Bool} {a : Option α} {k : α} (h : gd b a = some k) : b = true ∧ a = some k := by
  unfold gd at h
  split at h
  · exact ⟨rfl, h⟩
  · cases h
def isStar : Expr → Bool
  | .Starred .. => true
  | _ => false
def plainIx : Expr → Bool
  | .Slice .. => false
  | _ => true
theorem plainIx_ok {i : Expr} (h : plainIx i = true) : PlainIx i := by
  intro o v
  cases i <;> first
    | rfl
    | cases h
theorem sub_assign {o i : Expr} {pos : Pos} {env : Env} (h : plainIx i = true) (v : Value) : assign (.Subscript o i pos) env v = (do
      let ov ← holding [v] (eval o env)
      let iv ← holding [v, ov] (eval i env)
      standAt pos
      holding [v, ov, iv] (setItem ov iv v)
      release [v, ov, iv] []) := by
  cases i <;> first
    | rfl
    | cases h
def isSet : Expr → Bool
  | .Set .. => true
  | _ => false
theorem folded_ok {e : Expr} (h : isSet e = false) (env : Env) (x : Value) : foldedSetIterable e env x = pure x := by
  cases e <;> first
    | rfl
    | cases h
theorem star_eq {a : Expr} (h : isStar a = false) (es : List Expr) (env : Env) : starEach (a :: es) env = (false, eval a env) :: starEach es env := by
  cases a <;> first
    | rfl
    | cases h
theorem asg_eq {a : Expr} (h : isStar a = false) (es : List Expr) (env : Env) : assignEach (a :: es) env = (false, assign a env) :: assignEach es env := by
  cases a <;> first
    | rfl
    | cases h
theorem star_none {es : List Expr} (h : ∀ a ∈ es, isStar a = false) (pos : Pos) (env : Env) : (backTo pos (starEach es env)).any (·.1) = false := by
  induction es with
  | nil => rfl
  | cons a es ih =>
    rw [star_eq (h a List.mem_cons_self)]
    exact ih fun b hb => h b (List.mem_cons_of_mem _ hb)
theorem star_all {es : List Expr} (h : ∀ a ∈ es, isStar a = false) (pos : Pos) (env : Env) : (backTo pos (starEach es env)).all (fun x => !x.1) = true := by
  induction es with
  | nil => rfl
  | cons a es ih =>
    rw [star_eq (h a List.mem_cons_self)]
    exact ih fun b hb => h b (List.mem_cons_of_mem _ hb)
def isSuper : Expr → Bool
  | .Call (.Name _ _) [] [] _ => true
  | _ => false
theorem base_ok {o : Expr} (h : isSuper o = false) (m : Str) (env : Env) (w : Sem Value) : attributeBase o m env w = w := by
  unfold attributeBase
  split
  · cases h
  · rfl
def isComp : Expr → Bool
  | .ListComp .. => true
  | .SetComp .. => true
  | .DictComp .. => true
  | _ => false
theorem swap_no {e : Expr} (h : isComp e = false) (t : Option Expr) (l : Nat) (env : Env) : swapsWith e t l env = pure false := by
  cases e <;> first
    | rfl
    | cases h
def isTL : Expr → Bool
  | .Tuple .. => true
  | .List .. => true
  | _ => false
theorem stores_no {t v : Expr} {env : Env} (h : (isTL t && isTL v) = false) : swappedStores [t] v env = pure none := by
  cases t <;> first
    | rfl
    | (cases v <;> first
      | rfl
      | cases h)
theorem isTrue_plain {a : Expr} {env : Env} (h : (match a with
    | .UnaryOp .Not _ _ => true
    | .BoolOp .. => true
    | .IfExp .. => true
    | .Compare .. => true
    | _ => false) = false) : ∀ whole, isTrue a env whole = (do let v ← whole; standAt a.pos; holding [v] (truthy v)) := by
  intro whole
  cases a <;> first
    | rfl
    | cases h
    | (rename_i op x p; cases op <;> first
      | rfl
      | cases h)
/-- a tuple of slots -/
def tsl : C → List Nat
  | .var i => [i]
  | .tup es => tsl es
  | .cons a b => tsl a ++ tsl b
  | _ => []
def ownOf (N : List Str) (sc : Scope) : List (Str × Nat) := sc.names.filterMap fun y => match y.2 with
  | .local => (ixOf N y.1).map fun i => (y.1, i)
  | .cell => (ixOf N y.1).map fun i => (y.1, i)
  | _ => none
def asciiB (x : Str) : Bool := x.cps.toList.all (· < 128)
def cCon : Const → Option C
  | .int i => some (.con (.int i))
  | .str x => gd (asciiB x) (some (.con (.str x.cps.toList)))
  | .none => some (.con .non)
  | .bool b => some (.con (.bl b))
  | _ => none
def cName (c : Cc) (x : Str) : Option C := match ixOf c.N x, visB c.sc x with
  | some i, true => gd (okN x) (some (.var i))
  | _, _ => gd (glB c.sc x && okN x) (match tyN.lookup x with
    | some t => some (.con (.ty t))
    | none => some (.glb x))
def inC (c : Cc) (scope : Scope) : Cc := { N := c.N, sc := relS scope c.sc, fnp := fun x => scope.names.lookup x == some .cell, fns := c.fns }
mutual
def cE : Nat → Cc → Expr → Option C
  | 0, _, _ => none
  | n + 1, c, e => match e with
    | .Name x _ => cName c x
    | .Constant k _ _ => cCon k
    | .BinOp a op b _ => o2 (.bin op) (cE n c a) (cE n c b)
    | .UnaryOp .USub a _ => o1 .usub (cE n c a)
    | .UnaryOp .Not a _ => o1 .not_ (cE n c a)
    | .BoolOp op vs _ => cB n c op vs
    | .Compare a [op] [b] _ => gd (!behindInMarks op b) (o2 (.cmp op) (cE n c a) (cE n c b))
    | .Compare a [p, q] [b, d] _ => gd (!lastMarks [p, q] [b, d]) (o3 (.chn p q) (cE n c a) (cE n c b) (cE n c d))
    | .IfExp t a b _ => o3 .ite (cE n c t) (cE n c a) (cE n c b)
    | .Tuple es _ _ => o1 .tup (cA n c es)
    | .List es _ => o1 .lst (cA n c es)
    | .Dict [] [] _ => some .dic0
    | .Subscript a (.Slice lo hi none _) _ => o3 .slc (cE n c a) (cP n c lo) (cP n c hi)
    | .Subscript a i _ => gd (plainIx i) (o2 .idx (cE n c a) (cE n c i))
    | .Call (.Name x _) [] [] _ => gd (glB c.sc x && okN x && c.fns.contains x) (some (.call x .nil))
    | .Call (.Name x _) (e :: es) [] _ => gd (glB c.sc x && okN x) (match bNm.lookup x with
      | some b => o1 (.bc b) (cA n c (e :: es))
      | none => gd (c.fns.contains x) (o1 (.call x) (cA n c (e :: es))))
    | .Call (.Attribute o m apos) (e :: es) [] pos => gd ((apos.endLine == pos.line) && !isSuper o && decide (es.length < 20)) (match mNm.lookup m with
      | some k => o2 (fun a b => .bm a k b) (cE n c o) (cA n c (e :: es))
      | none => none)
    | .ListComp elt [⟨tg, it, [], 0⟩] scope _ => cLc c scope (cG n (inC c scope) tg) (cI n c tg it) (some .nil) (cE n (inC c scope) elt) (isSet it)
    | .ListComp elt [⟨tg, it, [cd], 0⟩] scope _ => cLc c scope (cG n (inC c scope) tg) (cI n c tg it) (o1 (fun k => .cons k .nil) (cE n (inC c scope) cd)) (cE n (inC c scope) elt) (isSet it)
    | _ => none
def cLc (c : Cc) (scope : Scope) (tg it cd elt : Option C) (st : Bool) : Option C := gd (blkC c.N c.sc scope (ownOf c.N scope) && !st) (match tg, it, cd, elt with
  | some tg, some it, some cd, some elt => gd ((tsl tg).all fun i => ((ownOf c.N scope).map (·.2)).contains i) (some (.lc ((ownOf c.N scope).map (·.2)) tg it cd elt))
  | _, _, _, _ => none)
def cB : Nat → Cc → BoolOp → List Expr → Option C
  | 0, _, _, _ => none
  | n + 1, c, op, vs => match op, vs with
    | op, [a] => cE n c a
    | .And, a :: b :: r => o2 .and_ (cE n c a) (cB n c .And (b :: r))
    | .Or, a :: b :: r => o2 .or_ (cE n c a) (cB n c .Or (b :: r))
    | _, _ => none
def cA : Nat → Cc → List Expr → Option C
  | 0, _, _ => none
  | n + 1, c, es => match es with
    | [] => some .nil
    | a :: r => o2 .cons (cE n c a) (cA n c r)
def cP : Nat → Cc → Option Expr → Option C
  | 0, _, _ => none
  | n + 1, c, e => match e with
    | none => some .nil
    | some e => o1 (fun k => .cons k .nil) (cE n c e)
def cI : Nat → Cc → Expr → Expr → Option C
  | 0, _, _, _ => none
  | n + 1, c, tg, it => match tg, it with
    | tg, .Call (.Name x p) [a] [] pos => (match decide (x = ("range" : Str)) with
      | true => gd (glB c.sc x) (o1 .rng1I (cE n c a))
      | false => (match decide (x = ("enumerate" : Str)), tg with
      | true, .Tuple _ _ _ => gd (glB c.sc x) (o1 .enumI (cE n c a))
      | _, _ => o1 .seqI (cE n c (.Call (.Name x p) [a] [] pos))))
    | tg, .Call (.Name x p) [a, b] [] pos => (match decide (x = ("range" : Str)) with
      | true => gd (glB c.sc x) (o2 .rng2I (cE n c a) (cE n c b))
      | false => o1 .seqI (cE n c (.Call (.Name x p) [a, b] [] pos)))
    | tg, e => o1 .seqI (cE n c e)
def cG : Nat → Cc → Expr → Option C
  | 0, _, _ => none
  | n + 1, c, tg => match tg with
    | .Name x _ => gd (stoB c x) (match ixOf c.N x with
      | some i => some (.var i)
      | none => none)
    | .Tuple es _ _ => o1 .tup (cGs n c es)
    | .Subscript o i _ => gd (plainIx i) (o2 .idx (cE n c o) (cE n c i))
    | _ => none
def cGs : Nat → Cc → List Expr → Option C
  | 0, _, _ => none
  | n + 1, c, es => match es with
    | [] => some .nil
    | a :: r => o2 .cons (cG n c a) (cGs n c r)
end
end CT

/-! CT11: the code does what the text does. -/
namespace CT
open PySem PySem.Spec PyProof.Rows L2

structure Cok (c : Cc) (G : Gam) (X : Cx) : Prop where
  g : GOk G X
  hk : ∀ Y : Cx, Y.K = X.K → IsinK G Y
  N : X.N = c.N
  nd : c.N.Nodup
  sc : X.env.scope = c.sc
  fn : X.fn = c.fnp
  fns : ∀ x, c.fns.contains x = true → (G.fn x).isSome = true
section
variable {c : Cc} {G : Gam} {X : Cx}
theorem Cok.gl (ok : Cok c G X) {x : Str} (h : glB c.sc x = true) : Gl X x := by
  have q := glB_ok h
  rw [← ok.sc] at q
  exact q
theorem Cok.vis (ok : Cok c G X) {x : Str} (h : visB c.sc x = true) : Vis X.env.scope x := by
  rw [ok.sc]
  exact visB_ok h
theorem Cok.ix (ok : Cok c G X) {x : Str} {i : Nat} (h : ixOf c.N x = some i) : X.N[i]? = some x := by
  rw [ok.N]
  exact ixOf_get h
theorem Cok.sto (ok : Cok c G X) {x : Str} (h : stoB c x = true) : Loc X.env.scope x ∧ (X.fn x = true ∨ X.env.scope.names.lookup x = some .local) := by
  unfold stoB at h
  rw [ok.sc, ok.fn]
  split at h
  · rename_i e
    exact ⟨.inl e, .inr e⟩
  · rename_i e
    exact ⟨.inr e, .inl h⟩
  · cases h
theorem Cok.blk (ok : Cok c G X) (scope : Scope) (s : Shared) (H : Hp) (C : Addr) (cl : List (Str × Addr)) (fp : List Addr) : Cok (inC c scope) G (X.blk s H scope (compEnvC scope cl C X.env) fp) where
  g := ⟨ok.g.hu, ok.g.calm, fun f sp h => ⟨(ok.g.fn f sp h).ex⟩, ok.g.blt, ok.g.gv⟩
  hk := ok.hk
  N := ok.N
  nd := ok.nd
  sc := by
    show relS scope X.env.scope = relS scope c.sc
    rw [ok.sc]
  fn := rfl
  fns := ok.fns
theorem im_con {K : PySem.W.Frag} {H : Hp} {x : Str} (h : asciiB x = true) : Im K H (.str x.cps.toList) (.str x) := by
  simp only [Im]
  refine ⟨rfl, fun c hc => ?_⟩
  unfold asciiB at h
  simpa using List.all_eq_true.mp h c hc
theorem je_cCon {kk : Const} {j : Nat} {pos : Pos} {k : C} (h : cCon kk = some k) : ∃ d, k = .con d ∧ JE X (.Constant kk j pos) (fun δ H Q Y => Q d H) := by
  unfold cCon at h
  split at h
  · cases h; exact ⟨_, rfl, je_con pe_int fun H => by simp only [Im]⟩
  · obtain ⟨h1, h⟩ := gd_i h
    cases h; exact ⟨_, rfl, je_con pe_str fun H => im_con h1⟩
  · cases h; exact ⟨_, rfl, je_con pe_non fun H => by simp only [Im]⟩
  · cases h; exact ⟨_, rfl, je_con pe_bl fun H => by simp only [Im]⟩
  · cases h
theorem je_cName (ok : Cok c G X) {x : Str} {pos : Pos} {k : C} (h : cName c x = some k) : JE X (.Name x pos) (wE G k) := by
  unfold cName at h
  split at h
  · rename_i i e1 e2
    obtain ⟨h1, h⟩ := gd_i h
    cases h
    obtain ⟨h2, h3⟩ := okN_ok h1
    exact je_var (ok.ix e1) (ok.vis e2) h2 h3
  · obtain ⟨h1, h⟩ := gd_i h
    rw [Bool.and_eq_true] at h1
    split at h
    · rename_i t e
      cases h
      have q := of_decide_eq_true (List.all_eq_true.mp tyN_ok _ (look_mem e))
      exact je_ty ok.g (ok.gl h1.1) q
    · cases h
      exact je_glb ok.g (ok.gl h1.1) (okN_ok h1.2).1
theorem jt_no {e : Expr} : JT X e (fun _ _ _ _ => False) := fun W tk => PT.imp (t := fun _ _ _ => False) ⟨fun _ _ _ _ _ _ h => h.elim⟩ fun σ H Q ⟨δ, Hd, R, Y, sr, hr, t, q, rx⟩ => t
theorem ns_e {n : Nat} {c : Cc} {e : Expr} {k : C} (h : cE n c e = some k) : isStar e = false := by
  cases n with
  | zero => cases h
  | succ n => cases e <;> first
    | rfl
    | cases h
theorem ns_a : ∀ {n : Nat} {c : Cc} {es : List Expr} {k : C}, cA n c es = some k → ∀ a ∈ es, isStar a = false
  | 0, _, _, _, h => by cases h
  | n + 1, c, [], _, h => by simp
  | n + 1, c, a :: es, k, h => by
    simp only [cA] at h
    obtain ⟨x, y, h1, h2, _⟩ := o2_i h
    intro b hb
    rcases List.mem_cons.mp hb with e | hb
    · subst e; exact ns_e h1
    · exact ns_a h2 b hb
theorem ns_g {n : Nat} {c : Cc} {e : Expr} {k : C} (h : cG n c e = some k) : isStar e = false := by
  cases n with
  | zero => cases h
  | succ n => cases e <;> first
    | rfl
    | cases h
theorem ns_gs : ∀ {n : Nat} {c : Cc} {es : List Expr} {k : C}, cGs n c es = some k → ∀ a ∈ es, isStar a = false
  | 0, _, _, _, h => by cases h
  | n + 1, c, [], _, h => by simp
  | n + 1, c, a :: es, k, h => by
    simp only [cGs] at h
    obtain ⟨x, y, h1, h2, _⟩ := o2_i h
    intro b hb
    rcases List.mem_cons.mp hb with e | hb
    · subst e; exact ns_g h1
    · exact ns_gs h2 b hb
theorem len_gs : ∀ {n : Nat} {c : Cc} {es : List Expr} {k : C}, cGs n c es = some k → clen k = es.length
  | 0, _, _, _, h => by cases h
  | n + 1, c, [], _, h => by cases h; rfl
  | n + 1, c, a :: es, k, h => by
    simp only [cGs] at h
    obtain ⟨x, y, h1, h2, rfl⟩ := o2_i h
    simp only [clen, List.length_cons]
    rw [len_gs h2]
theorem asg_len {es : List Expr} (h : ∀ a ∈ es, isStar a = false) (env : Env) : (assignEach es env).length = es.length ∧ (assignEach es env).findIdx? (·.1) = none := by
  induction es with
  | nil => exact ⟨rfl, rfl⟩
  | cons a es ih =>
    obtain ⟨h1, h2⟩ := ih fun b hb => h b (List.mem_cons_of_mem _ hb)
    rw [asg_eq (h a List.mem_cons_self)]
    refine ⟨by simp [h1], ?_⟩
    rw [List.findIdx?_cons]
    simp [h2]
structure Snd (n : Nat) : Prop where
  e : ∀ {c : Cc} {e : Expr} {k : C}, cE n c e = some k → ∀ {G : Gam} {X : Cx}, Cok c G X → JE X e (wE G k)
  t : ∀ {c : Cc} {e : Expr} {k : C}, cE n c e = some k → ∀ {G : Gam} {X : Cx}, Cok c G X → JT X e (wT G k)
  b : ∀ {c : Cc} {op : BoolOp} {vs : List Expr} {pos : Pos} {k : C}, cB n c op vs = some k → ∀ {G : Gam} {X : Cx}, Cok c G X → JE X (.BoolOp op vs pos) (wE G k)
  bt : ∀ {c : Cc} {op : BoolOp} {vs : List Expr} {pos : Pos} {k : C}, cB n c op vs = some k → ∀ {G : Gam} {X : Cx}, Cok c G X → JW X (.BoolOp op vs pos) (wT G k)
  a : ∀ {c : Cc} {es : List Expr} {k : C}, cA n c es = some k → ∀ {G : Gam} {X : Cx}, Cok c G X → JA X es (wA G k)
  p : ∀ {c : Cc} {e : Option Expr} {k : C}, cP n c e = some k → ∀ {G : Gam} {X : Cx}, Cok c G X → JP X e (wP G k)
  i : ∀ {c : Cc} {tg it : Expr} {k : C}, cI n c tg it = some k → ∀ {G : Gam} {X : Cx}, Cok c G X → JI X tg it (wI G k)
  g : ∀ {c : Cc} {tg : Expr} {k : C}, cG n c tg = some k → ∀ {G : Gam} {X : Cx}, Cok c G X → JG X tg (tsl k) (wG G k)
  gs : ∀ {c : Cc} {es : List Expr} {k : C}, cGs n c es = some k → ∀ {G : Gam} {X : Cx}, Cok c G X → JGs X es (tsl k) (wGs G k)
theorem snd_lc {n : Nat} (S : Snd n) (ok : Cok c G X) {scope : Scope} {elt tg it : Expr} {ifs : List Expr} {cd : Option C} {k : C} {bt : Bool} (hb : isSet it = bt)
    (hcd : ∀ q, cd = some q → ∀ {G : Gam} {X : Cx}, Cok (inC c scope) G X → JC X ifs (wC G q)) (h : cLc c scope (cG n (inC c scope) tg) (cI n c tg it) cd (cE n (inC c scope) elt) bt = some k) :
    ∃ kt ki kd ke, k = .lc ((ownOf c.N scope).map (·.2)) kt ki kd ke ∧ BlkOk c.N c.sc scope (ownOf c.N scope) ∧ isSet it = false ∧ (∀ j ∈ tsl kt, j ∈ (ownOf c.N scope).map (·.2)) ∧ JI X tg it (wI G ki) ∧
      (∀ (s : Shared) (H : Hp) (C : Addr) (cl : List (Str × Addr)) (fp : List Addr), JG (X.blk s H scope (compEnvC scope cl C X.env) fp) tg (tsl kt) (wG G kt)) ∧
      (∀ (s : Shared) (H : Hp) (C : Addr) (cl : List (Str × Addr)) (fp : List Addr), JC (X.blk s H scope (compEnvC scope cl C X.env) fp) ifs (wC G kd)) ∧
      (∀ (s : Shared) (H : Hp) (C : Addr) (cl : List (Str × Addr)) (fp : List Addr), JE (X.blk s H scope (compEnvC scope cl C X.env) fp) elt (wE G ke)) := by
  unfold cLc at h
  obtain ⟨h1, h⟩ := gd_i h
  rw [Bool.and_eq_true, Bool.not_eq_true'] at h1
  split at h
  · rename_i kt ki kd ke e1 e2 e4 _
    obtain ⟨h2, h⟩ := gd_i h
    cases h
    refine ⟨kt, ki, kd, ke, rfl, blkOk_by h1.1, hb.trans h1.2, fun j hj => ?_, S.i e2 ok, fun s H C cl fp => S.g e1 (ok.blk scope s H C cl fp), fun s H C cl fp => hcd _ rfl (ok.blk scope s H C cl fp), fun s H C cl fp => S.e e4 (ok.blk scope s H C cl fp)⟩
    have q := List.all_eq_true.mp h2 j hj
    simpa using q
  · cases h
theorem snd_bm (ok : Cok c G X) {o a : Expr} {es : List Expr} {m : Str} {apos pos : Pos} {k : M} {x y : C} (hm : mNm.lookup m = some k) (ho : JE X o (wE G x)) (ha : JA X (a :: es) (wA G y)) (hst : ∀ b ∈ a :: es, isStar b = false)
    (hl : (apos.endLine == pos.line) = true) (hs : isSuper o = false) (hf : es.length < 20) : JE X (.Call (.Attribute o m apos) (a :: es) [] pos) (wE G (.bm x k y)) := by
  have hfew : ((backTo pos (starEach (a :: es) X.env)).all (fun x => !x.1) && (backToKw pos (keywordEach [] X.env)).all (fun x => x.1.isSome)
      && decide ((a :: es).length + ([] : List Keyword).length + (if ([] : List Keyword).isEmpty then 0 else 1) < 30)) = true := by
    rw [star_all hst]
    simp only [List.length_cons, List.length_nil, List.isEmpty_nil, if_true, Bool.true_and]
    show decide _ = true
    rw [decide_eq_true_eq]
    omega
  have h0 := star_eq (hst a List.mem_cons_self) es X.env
  have h1 := star_none (fun b hb => hst b (List.mem_cons_of_mem _ hb)) pos X.env
  have q := look_mem hm
  simp only [mNm, List.mem_cons, List.not_mem_nil, or_false, Prod.mk.injEq] at q
  rcases q with ⟨rfl, rfl⟩ | ⟨rfl, rfl⟩
  · exact je_bmA PySem.F.plainAttrs_list slot_list_append type_list_append mb_append (fun H Hd d v hr i t => tyV_L hr i t) ho ha (base_ok hs _ _ _) hfew hl h0 h1
  · exact je_bmA PySem.F.plainAttrs_str PySem.F.slot_str_join PySem.F.type_str_join mb_join (fun H Hd d v hr i t => tyV_S i t) ho ha (base_ok hs _ _ _) hfew hl h0 h1
theorem snd_bc (ok : Cok c G X) {a : Expr} {es : List Expr} {x : Str} {p pos : Pos} {b : B} {k : C} (hx : glB c.sc x = true) (hb : bNm.lookup x = some b) (ha : JA X (a :: es) (wA G k)) (hst : ∀ b ∈ a :: es, isStar b = false) : JE X (.Call (.Name x p) (a :: es) [] pos) (wE G (.bc b k)) := by
  have e : (bval b).1 = x := of_decide_eq_true (List.all_eq_true.mp bNm_ok _ (look_mem hb))
  subst e
  exact je_bc ok.g (ok.hk X rfl) (ok.gl hx) ha (star_eq (hst a List.mem_cons_self) es X.env) (star_none (fun b hb => hst b (List.mem_cons_of_mem _ hb)) pos X.env)
theorem snd_call (ok : Cok c G X) {a : Expr} {es : List Expr} {x : Str} {p pos : Pos} {k : C} (hx : glB c.sc x = true) (hd : okN x = true) (hb : c.fns.contains x = true) (ha : JA X (a :: es) (wA G k)) (hst : ∀ b ∈ a :: es, isStar b = false) : JE X (.Call (.Name x p) (a :: es) [] pos) (wE G (.call x k)) :=
  je_call ok.g (ok.fns x hb) (ok.gl hx) ha (okN_ok hd).1 (star_eq (hst a List.mem_cons_self) es X.env) (star_none (fun b hb => hst b (List.mem_cons_of_mem _ hb)) pos X.env)
theorem snd_call0 (ok : Cok c G X) {x : Str} {p pos : Pos} (hx : glB c.sc x = true) (hd : okN x = true) (hb : c.fns.contains x = true) : JE X (.Call (.Name x p) [] [] pos) (wE G (.call x .nil)) :=
  je_call0 ok.g (ok.fns x hb) (ok.gl hx) (okN_ok hd).1
theorem snd : ∀ n, Snd n
  | 0 => by
    constructor
    all_goals (intros; rename_i h _ _ _; cases h)
  | n + 1 => by
    have S := snd n
    have hE : ∀ {c : Cc} {e : Expr} {k : C}, cE (n + 1) c e = some k → ∀ {G : Gam} {X : Cx}, Cok c G X → JE X e (wE G k) := by
      intro c e k h G X ok
      unfold cE at h
      split at h
      · exact je_cName ok h
      · obtain ⟨d, rfl, q⟩ := je_cCon h; exact q
      · obtain ⟨x, y, h1, h2, rfl⟩ := o2_i h; exact je_bin (S.e h1 ok) (S.e h2 ok)
      · obtain ⟨x, h1, rfl⟩ := o1_i h; exact je_usub (S.e h1 ok)
      · obtain ⟨x, h1, rfl⟩ := o1_i h; exact je_not (S.e h1 ok)
      · exact S.b h ok
      · obtain ⟨h0, h⟩ := gd_i h
        obtain ⟨x, y, h1, h2, rfl⟩ := o2_i h
        exact je_cmp ok.g (S.e h1 ok) (S.e h2 ok) (by simpa using h0)
      · obtain ⟨h0, h⟩ := gd_i h
        obtain ⟨x, y, z, h1, h2, h3, rfl⟩ := o3_i h
        exact je_chn ok.g (S.e h1 ok) (S.e h2 ok) (S.e h3 ok) (by simpa using h0)
      · obtain ⟨x, y, z, h1, h2, h3, rfl⟩ := o3_i h; exact je_ite (S.t h1 ok) (S.e h2 ok) (S.e h3 ok)
      · obtain ⟨x, h1, rfl⟩ := o1_i h; exact je_tup (S.a h1 ok)
      · obtain ⟨x, h1, rfl⟩ := o1_i h; exact je_lst (S.a h1 ok)
      · cases h; exact je_dic
      · obtain ⟨x, y, z, h1, h2, h3, rfl⟩ := o3_i h; exact je_slc (S.e h1 ok) (S.p h2 ok) (S.p h3 ok)
      · obtain ⟨h0, h⟩ := gd_i h
        obtain ⟨x, y, h1, h2, rfl⟩ := o2_i h
        exact je_idx ok.g (S.e h1 ok) (S.e h2 ok) (plainIx_ok h0)
      · obtain ⟨h0, h⟩ := gd_i h
        cases h
        simp only [Bool.and_eq_true] at h0
        exact snd_call0 ok h0.1.1 h0.1.2 h0.2
      · obtain ⟨h0, h⟩ := gd_i h
        simp only [Bool.and_eq_true] at h0
        split at h
        · rename_i b e
          obtain ⟨x, h1, rfl⟩ := o1_i h
          exact snd_bc ok h0.1 e (S.a h1 ok) (ns_a h1)
        · obtain ⟨h3, h⟩ := gd_i h
          obtain ⟨x, h1, rfl⟩ := o1_i h
          exact snd_call ok h0.1 h0.2 h3 (S.a h1 ok) (ns_a h1)
      · obtain ⟨h0, h⟩ := gd_i h
        simp only [Bool.and_eq_true, decide_eq_true_eq, Bool.not_eq_true'] at h0
        split at h
        · rename_i k e
          obtain ⟨x, y, h1, h2, rfl⟩ := o2_i h
          exact snd_bm ok e (S.e h1 ok) (S.a h2 ok) (ns_a h2) h0.1.1 h0.1.2 h0.2
        · cases h
      · obtain ⟨kt, ki, kd, ke, rfl, q1, q2, q3, q4, q5, q6, q7⟩ := snd_lc S ok rfl (ifs := []) (fun q e => by cases e; exact fun _ => jc_nil) h
        exact je_lc ok.g (by rw [ok.N]; exact ok.nd) q4 (by rw [ok.N, ok.sc]; exact q1) q5 q6 q7 q3 (folded_ok q2 _)
      · obtain ⟨kt, ki, kd, ke, rfl, q1, q2, q3, q4, q5, q6, q7⟩ := snd_lc S ok rfl (ifs := [_]) (fun q e => by
          obtain ⟨x, h1, rfl⟩ := o1_i e
          exact fun {G X} ok => (jc_one (S.t h1 ok) : JC X _ (wT G x))) h
        exact je_lc ok.g (by rw [ok.N]; exact ok.nd) q4 (by rw [ok.N, ok.sc]; exact q1) q5 q6 q7 q3 (folded_ok q2 _)
      · cases h
    constructor
    case e => exact hE
    case t =>
      intro c e k h G X ok
      have hE' := hE h ok
      unfold cE at h
      split at h
      · have key := jt_tru hE' (isTrue_plain rfl)
        unfold cName at h
        split at h
        · obtain ⟨h1, h⟩ := gd_i h
          cases h
          refine fun W tk => PT.imp (key W tk) fun σ H Q ⟨δ, Hd, R, Y, sr, hr, t, q, rx⟩ => ⟨δ, Hd, R, Y, sr, hr, ?_, q, rx⟩
          simp only [wT] at t
          simp only [wE]
          split at t
          · exact t
          · exact t.elim
        · obtain ⟨h1, h⟩ := gd_i h
          split at h
          · cases h; exact key
          · cases h; exact jt_no
      · have key := jt_tru hE' (isTrue_plain rfl)
        obtain ⟨d, rfl, q⟩ := je_cCon (j := 0) (pos := default) (X := X) h
        exact key
      · obtain ⟨x, y, h1, h2, rfl⟩ := o2_i h; exact jt_no
      · obtain ⟨x, h1, rfl⟩ := o1_i h; exact jt_no
      · obtain ⟨x, h1, rfl⟩ := o1_i h; exact jt_not (S.t h1 ok)
      · exact (S.bt h ok).jt
      · obtain ⟨h0, h⟩ := gd_i h
        obtain ⟨x, y, h1, h2, rfl⟩ := o2_i h
        exact jt_cmp ok.g (S.e h1 ok) (S.e h2 ok) (by simpa using h0)
      · obtain ⟨h0, h⟩ := gd_i h
        obtain ⟨x, y, z, h1, h2, h3, rfl⟩ := o3_i h
        exact jt_chn ok.g (S.e h1 ok) (S.e h2 ok) (S.e h3 ok) (by simpa using h0)
      · obtain ⟨x, y, z, h1, h2, h3, rfl⟩ := o3_i h; exact jt_no
      · obtain ⟨x, h1, rfl⟩ := o1_i h; exact jt_no
      · obtain ⟨x, h1, rfl⟩ := o1_i h; exact jt_no
      · cases h; exact jt_no
      · obtain ⟨x, y, z, h1, h2, h3, rfl⟩ := o3_i h; exact jt_no
      · obtain ⟨h0, h⟩ := gd_i h
        obtain ⟨x, y, h1, h2, rfl⟩ := o2_i h
        exact jt_tru hE' (isTrue_plain rfl)
      · obtain ⟨h0, h⟩ := gd_i h
        cases h
        exact jt_tru hE' (isTrue_plain rfl)
      · obtain ⟨h0, h⟩ := gd_i h
        split at h
        · obtain ⟨x, h1, rfl⟩ := o1_i h
          exact jt_tru hE' (isTrue_plain rfl)
        · obtain ⟨h3, h⟩ := gd_i h
          obtain ⟨x, h1, rfl⟩ := o1_i h
          exact jt_tru hE' (isTrue_plain rfl)
      · obtain ⟨h0, h⟩ := gd_i h
        split at h
        · obtain ⟨x, y, h1, h2, rfl⟩ := o2_i h
          exact jt_tru hE' (isTrue_plain rfl)
        · cases h
      · obtain ⟨kt, ki, kd, ke, rfl, _⟩ := snd_lc S ok rfl (ifs := []) (fun q e => by cases e; exact fun _ => jc_nil) h
        exact jt_no
      · obtain ⟨kt, ki, kd, ke, rfl, _⟩ := snd_lc S ok rfl (ifs := [_]) (fun q e => by
          obtain ⟨x, h1, rfl⟩ := o1_i e
          exact fun {G X} ok => (jc_one (S.t h1 ok) : JC X _ (wT G x))) h
        exact jt_no
      · cases h
    case b =>
      intro c op vs pos k h G X ok
      unfold cB at h
      split at h
      · exact je_one (S.e h ok)
      · obtain ⟨x, y, h1, h2, rfl⟩ := o2_i h; exact je_and (S.e h1 ok) (S.b h2 ok)
      · obtain ⟨x, y, h1, h2, rfl⟩ := o2_i h; exact je_or (S.e h1 ok) (S.b h2 ok)
      · cases h
    case bt =>
      intro c op vs pos k h G X ok
      unfold cB at h
      split at h
      · cases op
        · exact jw_and1 (S.t h ok)
        · exact jw_or1 (S.t h ok)
      · obtain ⟨x, y, h1, h2, rfl⟩ := o2_i h; exact jw_and (S.t h1 ok) (S.bt h2 ok)
      · obtain ⟨x, y, h1, h2, rfl⟩ := o2_i h; exact jw_or (S.t h1 ok) (S.bt h2 ok)
      · cases h
    case a =>
      intro c es k h G X ok
      unfold cA at h
      split at h
      · cases h; exact ja_nil
      · obtain ⟨x, y, h1, h2, rfl⟩ := o2_i h; exact ja_cons (S.e h1 ok) (S.a h2 ok) (star_eq (ns_e h1) _ _)
    case p =>
      intro c e k h G X ok
      unfold cP at h
      split at h
      · cases h; exact jp_none
      · obtain ⟨x, h1, rfl⟩ := o1_i h; exact jp_some (S.e h1 ok)
    case i =>
      intro c tg it k h G X ok
      unfold cI at h
      split at h
      · split at h
        · rename_i e
          have e := of_decide_eq_true e
          subst e
          obtain ⟨h0, h⟩ := gd_i h
          obtain ⟨x, h1, rfl⟩ := o1_i h
          exact ji_rng1 ok.g (ok.gl h0) (S.e h1 ok) (star_eq (ns_e h1) _ _)
        · split at h
          · rename_i e
            have e := of_decide_eq_true e
            subst e
            obtain ⟨h0, h⟩ := gd_i h
            obtain ⟨x, h1, rfl⟩ := o1_i h
            exact ji_enum ok.g (ok.gl h0) (S.e h1 ok) (star_eq (ns_e h1) _ _)
          · obtain ⟨x, h1, rfl⟩ := o1_i h
            exact ji_seq (S.e h1 ok)
      · split at h
        · rename_i e
          have e := of_decide_eq_true e
          subst e
          obtain ⟨h0, h⟩ := gd_i h
          obtain ⟨x, y, h1, h2, rfl⟩ := o2_i h
          exact ji_rng2 ok.g (ok.gl h0) (S.e h1 ok) (S.e h2 ok) (star_eq (ns_e h1) _ _) (star_eq (ns_e h2) _ _)
        · obtain ⟨x, h1, rfl⟩ := o1_i h
          exact ji_seq (S.e h1 ok)
      · obtain ⟨x, h1, rfl⟩ := o1_i h
        exact ji_seq (S.e h1 ok)
    case g =>
      intro c tg k h G X ok
      unfold cG at h
      split at h
      · obtain ⟨h0, h⟩ := gd_i h
        split at h
        · rename_i i e
          cases h
          obtain ⟨q1, q2⟩ := ok.sto h0
          exact jg_name (by rw [ok.N]; exact ok.nd) (ok.ix e) q1 q2
        · cases h
      · obtain ⟨x, h1, rfl⟩ := o1_i h
        have q := asg_len (ns_gs h1) X.env
        have j := jg_tup (pos := default) (k := 0) ok.g.calm (S.gs h1 ok) q.1 q.2
        have e := len_gs h1
        show PG X _ _
        refine PG.imp (jg_tup ok.g.calm (S.gs h1 ok) q.1 q.2) fun v σ H Q ⟨δ, Hd, R, d, sr, hr, im, t, q⟩ => ⟨δ, Hd, R, d, sr, hr, im, ?_, q⟩
        cases d with
        | tup vs => exact ⟨t.1.trans e, t.2⟩
        | _ => exact t.elim
      · obtain ⟨h0, h⟩ := gd_i h
        obtain ⟨x, y, h1, h2, rfl⟩ := o2_i h
        exact jg_sub ok.g (S.e h1 ok) (S.e h2 ok) (sub_assign h0)
      · cases h
    case gs =>
      intro c es k h G X ok
      unfold cGs at h
      split at h
      · cases h; exact jgs_nil
      · obtain ⟨x, y, h1, h2, rfl⟩ := o2_i h
        exact jgs_cons (S.g h1 ok) (S.gs h2 ok) (by rw [asg_eq (ns_g h1)]; rfl)
end
end CT

/-! CT12: statements. -/
namespace CT
open PySem PySem.Spec PyProof.Rows L2
def isCall : Expr → Bool
  | .Call .. => true
  | _ => false
theorem isCall_comp {e : Expr} (h : isCall e = true) : isComp e = false := by
  cases e <;> first
    | rfl
    | cases h
def swB (c : Cc) (y : Str) (py : Pos) (scope : Scope) (pos : Pos) : Bool := locB c.sc y && (py.line == pos.line) && !(scope.names.any fun (n, k) => n == y && (k == .local || k == .cell))
def fnKind (sc : Scope) : Bool := match sc.kind with
  | .function => true
  | _ => false
mutual
def cS : Nat → Cc → Stmt → Option CS
  | 0, _, _ => none
  | n + 1, c, s => match s with
    | .Expr e _ => gd (isCall e) (o1 .exp (cE n c e))
    | .Return none _ => some .retN
    | .Return (some e) _ => o1 .ret (cE n c e)
    | .Assign [.Name y py] (.ListComp elt gs scope pos) _ => gd (swB c y py scope pos && fnKind c.sc) (o2 .asg (cG n c (.Name y py)) (cE n c (.ListComp elt gs scope pos)))
    | .Assign [tg] v _ => gd (!isComp v && !(isTL tg && isTL v)) (o2 .asg (cG n c tg) (cE n c v))
    | .AugAssign (.Name x _) op e _ => gd (stoB c x) (match ixOf c.N x with
      | some i => o1 (.aug i op) (cE n c e)
      | none => none)
    | .If t a b _ => o3 .iff (cE n c t) (cSs n c a) (cSs n c b)
    | .While t b [] _ => o2 .whl (cE n c t) (cSs n c b)
    | .For tg it b [] _ => gd (!isSet it) (o3 .forr (cG n c tg) (cI n c tg it) (cSs n c b))
    | .Pass _ => some .skip
    | .Break _ => some .brk
    | .Continue _ => some .cnt
    | _ => none
def cSs : Nat → Cc → List Stmt → Option CS
  | 0, _, _ => none
  | n + 1, c, l => match l with
    | [] => some .skip
    | s :: r => o2 .seq (cS n c s) (cSs n c r)
end
structure Sok (c : Cc) (G : Gam) (X : Cx) : Prop extends Cok c G X where
  po : PassesOwn (model X.prog X.w) X.A X.env X.xe
theorem snd_c {n : Nat} {c : Cc} {e : Expr} {k : C} (h : cE n c e = some k) {G : Gam} {X : Cx} (ok : Cok c G X) : JE X e (wE G k) := (snd n).e h ok
structure SndS (n : Nat) : Prop where
  s : ∀ {c : Cc} {e : Stmt} {k : CS}, cS n c e = some k → ∀ {G : Gam} {X : Cx}, Sok c G X → JS X e (wS G k)
  ss : ∀ {c : Cc} {e : List Stmt} {k : CS}, cSs n c e = some k → ∀ {G : Gam} {X : Cx}, Sok c G X → JSs X e (wS G k)
theorem js_seq1 {X : Cx} {st : Stmt} {t : DTS} (h : JS X st t) : JS X st t := h
theorem snd_lcAsg {n : Nat} {c : Cc} {y : Str} {py pos spos : Pos} {elt : Expr} {gs : List Comprehension} {scope : Scope} {k1 k2 : C} (h0 : swB c y py scope pos = true) (hk : fnKind c.sc = true) (h1 : cG n c (.Name y py) = some k1) (h2 : cE n c (.ListComp elt gs scope pos) = some k2) {G : Gam} {X : Cx} (ok : Cok c G X) :
    JS X (.Assign [.Name y py] (.ListComp elt gs scope pos) spos) (wS G (.asg k1 k2)) := by
  unfold swB at h0
  simp only [Bool.and_eq_true, Bool.not_eq_true'] at h0
  obtain ⟨⟨hl, hp⟩, ha⟩ := h0
  have hl' := locB_ok hl
  rw [← ok.sc] at hl'
  have hkd : X.env.scope.kind = .function := by
    rw [ok.sc]
    unfold fnKind at hk
    split at hk
    · assumption
    · cases hk
  have hsw : swapsWith (.ListComp elt gs scope pos) (some (.Name y py)) spos.line X.env = pure true := sw_true hkd hl' hp ha
  cases n with
  | zero => cases h1
  | succ n =>
    have S := snd n
    unfold cG at h1
    obtain ⟨_, h1⟩ := gd_i h1
    split at h1
    · rename_i i e
      cases h1
      unfold cE at h2
      split at h2
      all_goals first
        | (rename_i q; cases q)
        | skip
      all_goals first
        | (obtain ⟨kt, ki, kd, ke, rfl, q1, q2, q3, q4, q5, q6, q7⟩ := snd_lc S ok rfl (ifs := []) (fun q e => by cases e; exact fun _ => jc_nil) h2
           exact js_lcAsg ok.g (by rw [ok.N]; exact ok.nd) (ok.ix e) hl' hsw q4 (by rw [ok.N, ok.sc]; exact q1) q5 q6 q7 q3 (folded_ok q2 _))
        | (obtain ⟨kt, ki, kd, ke, rfl, q1, q2, q3, q4, q5, q6, q7⟩ := snd_lc S ok rfl (ifs := [_]) (fun q e => by
            obtain ⟨x, h1, rfl⟩ := o1_i e
            exact fun {G X} ok => (jc_one (S.t h1 ok) : JC X _ (wT G x))) h2
           exact js_lcAsg ok.g (by rw [ok.N]; exact ok.nd) (ok.ix e) hl' hsw q4 (by rw [ok.N, ok.sc]; exact q1) q5 q6 q7 q3 (folded_ok q2 _))
        | cases h2
    · cases h1
theorem sndS : ∀ n, SndS n
  | 0 => by
    constructor
    all_goals (intros; rename_i h _ _ _; cases h)
  | n + 1 => by
    have S := sndS n
    have T := snd n
    constructor
    case s =>
      intro c e k h G X ok
      unfold cS at h
      split at h
      · obtain ⟨h0, h⟩ := gd_i h
        obtain ⟨x, h1, rfl⟩ := o1_i h
        exact js_exp (T.e h1 ok.toCok) (swap_no (isCall_comp h0) _ _ _)
      · cases h; exact js_retN
      · obtain ⟨x, h1, rfl⟩ := o1_i h; exact js_ret (T.e h1 ok.toCok)
      · obtain ⟨h0, h⟩ := gd_i h
        rw [Bool.and_eq_true] at h0
        obtain ⟨x, y, h1, h2, rfl⟩ := o2_i h
        exact snd_lcAsg h0.1 h0.2 h1 h2 ok.toCok
      · obtain ⟨h0, h⟩ := gd_i h
        simp only [Bool.and_eq_true, Bool.not_eq_true'] at h0
        obtain ⟨x, y, h1, h2, rfl⟩ := o2_i h
        exact js_asg (T.e h2 ok.toCok) (T.g h1 ok.toCok) (swap_no h0.1 _ _ _) (stores_no h0.2) (by rw [asg_eq (ns_g h1)]; rfl)
      · obtain ⟨h0, h⟩ := gd_i h
        split at h
        · rename_i i e
          obtain ⟨x, h1, rfl⟩ := o1_i h
          obtain ⟨q1, q2⟩ := ok.sto h0
          exact js_aug (by rw [ok.N]; exact ok.nd) (ok.ix e) q1 (T.e h1 ok.toCok) q2
        · cases h
      · obtain ⟨x, y, z, h1, h2, h3, rfl⟩ := o3_i h; exact js_if (T.t h1 ok.toCok) (S.ss h2 ok) (S.ss h3 ok)
      · obtain ⟨x, y, h1, h2, rfl⟩ := o2_i h; exact js_while ok.po (T.t h1 ok.toCok) (S.ss h2 ok)
      · obtain ⟨h0, h⟩ := gd_i h
        rw [Bool.not_eq_true'] at h0
        obtain ⟨x, y, z, h1, h2, h3, rfl⟩ := o3_i h
        exact js_for ok.g ok.po (T.i h2 ok.toCok) (T.g h1 ok.toCok) (S.ss h3 ok) (folded_ok h0 _)
      · cases h; exact js_pass
      · cases h; exact js_brk
      · cases h; exact js_cnt
      · cases h
    case ss =>
      intro c e k h G X ok
      unfold cSs at h
      split at h
      · cases h; exact js_nil
      · obtain ⟨x, y, h1, h2, rfl⟩ := o2_i h; have q := js_cons (S.s h1 ok) (S.ss h2 ok); exact q
end CT

/-! CT13: functions; the head's facts. -/
namespace CT
open PySem PySem.Spec PyProof.Rows L2

/-! ### a function by its code -/
def Le (H H' : DH) : Prop := ∀ a o, H a = some o → H' a = some o
theorem Le.refl (H : DH) : Le H H := fun _ _ h => h
theorem Le.trans {H H1 H2 : DH} (a : Le H H1) (b : Le H1 H2) : Le H H2 := fun p o h => b p o (a p o h)
theorem Le.ud {H H1 : DH} {p : Addr} {o : DO} (h : Le H H1) (n : H p = none) : Le H (ud H1 p o) := fun q u e => by
  by_cases z : q = p
  · subst z; rw [n] at e; cases e
  · rw [ud_ne z]; exact h q u e
theorem HR.le {K : PySem.W.Frag} {Hd Hd' : DH} {H : Hp} (h : HR K Hd' H) (l : Le Hd Hd') : HR K Hd H := fun a o e => h a o (l a o e)
/-- what a function is to reach: what is new is forgotten -/
def fg (Q : DQ) : DQ := fun d H => ∃ H0, Le H0 H ∧ Q d H0
def fgX (Y : DX) : DX := fun c fs H => ∃ H0, Le H0 H ∧ Y c fs H0
def fin (Q : DQ) (Y : DX) : DE := { nx := fun _ H => fg Q .non H, rt := fg Q, ex := fun c fs _ H => fgX Y c fs H }
def startD (N : List Str) (ds : List D) : DS := ds.map some ++ List.replicate (N.length - ds.length) none
theorem sr_start {K : PySem.W.Frag} {H : Hp} {N : List Str} {ds : List D} {vs : List V} (h : ImL K H ds vs) : SR K H (startD N ds) (L2.start N vs) := by
  have hl := h.length
  refine ⟨by simp [startD, L2.start, hl], fun i d e => ?_⟩
  unfold startD at e
  by_cases hi : i < ds.length
  · rw [List.getElem?_append_left (by simpa using hi), List.getElem?_map] at e
    cases q : ds[i]? with
    | none => rw [q] at e; cases e
    | some d' =>
      rw [q] at e
      cases e
      obtain ⟨v, e1, e2⟩ := h.get q
      refine ⟨v, ?_, e2⟩
      unfold L2.start
      rw [List.getElem?_append_left (by rw [List.length_map, ← hl]; exact hi), List.getElem?_map, e1]
      rfl
  · rw [List.getElem?_append_right (by simpa using hi), List.getElem?_replicate] at e
    split at e <;> cases e
structure Fn (P : Program) (w : World) (K : PySem.W.Frag) (mg : Str → Option Value) (base : Heap) (k : Nat) (f : Str) (sp : DSp) : Prop where
  ex : ∃ a fd ps, mg f = some (.ref a) ∧ PySem.W.keepIn K (.ref a) = true ∧ FnOk P w K mg base (L2.CX P w) k a fd ps (spV K sp) ∧ Binds K fd ps []
/-- what is known around a function, at the level k -/
structure GE (P : Program) (w : World) (K : PySem.W.Frag) (mg : Str → Option Value) (base : Heap) (k : Nat) (G : Gam) : Prop where
  fn : ∀ f sp, G.fn f = some sp → Fn P w K mg base k f sp
  blt : ∀ p ∈ bnames, mg p.1 = none
  gv : ∀ x d, G.gv x = some d → ∃ u, mg x = some u ∧ ∃ v, RelV v u ∧ ∀ H, Im K H d v
  isin : ∀ Y : Cx, Y.K = K → IsinK G Y
section
variable {P : Program} {w : World} {K : PySem.W.Frag} {mg : Str → Option Value} {base : Heap}
theorem Fn.mono {j k : Nat} {f : Str} {sp : DSp} (F : Fn P w K mg base j f sp) (h : j ≤ k) : Fn P w K mg base k f sp :=
  let ⟨a, fd, ps, h1, h2, h3, h4⟩ := F.ex
  ⟨a, fd, ps, h1, h2, h3.mono h, h4⟩
theorem spV_imp {sp sp' : DSp} (i : ∀ ds H Q Y, sp' ds H Q Y → sp ds H Q Y) {vs : List V} {H : Hp} {Q : VK} {E : XK} (h : spV K sp' vs H Q E) : spV K sp vs H Q E := by
  obtain ⟨ds, Hd, R, Y, h1, h2, h3, h4, h5⟩ := h
  exact ⟨ds, Hd, R, Y, h1, h2, i _ _ _ _ h3, h4, h5⟩
theorem Fn.imp {k : Nat} {f : Str} {sp sp' : DSp} (F : Fn P w K mg base k f sp) (i : ∀ ds H Q Y, sp' ds H Q Y → sp ds H Q Y) : Fn P w K mg base k f sp' :=
  let ⟨a, fd, ps, h1, h2, h3, h4⟩ := F.ex
  ⟨a, fd, ps, h1, h2, h3.imp fun vs H Q E h => spV_imp i h, h4⟩
theorem GE.ok {k : Nat} {G : Gam} (e : GE P w K mg base k G) {c : Cc} {X : Cx} (e1 : X.prog = P) (e2 : X.w = w) (e3 : X.K = K) (e4 : X.mg = mg) (e5 : X.base = base) (hc : X.calm = true) (hr : Room k X.A) (hN : X.N = c.N) (nd : c.N.Nodup) (sc : X.env.scope = c.sc) (fn : X.fn = c.fnp)
    (fns : ∀ x, c.fns.contains x = true → (G.fn x).isSome = true) : Cok c G X := by
  subst e1 e2 e3 e4 e5
  refine ⟨⟨?_, hc, fun f sp h => ?_, e.blt, e.gv⟩, e.isin, hN, nd, sc, fn, fns⟩
  · have := hr.un
    omega
  · obtain ⟨a, fd, ps, h1, h2, h3, h4⟩ := (e.fn f sp h).ex
    exact ⟨a, fd, ps, k, h1, h2, h3, h4, hr⟩
/-- THE RULE -/
theorem fnok_of {k n : Nat} {x qual : Str} {params : Arguments} {body : List Stmt} {scope : Scope} {dvs : List V} {kws : List (Str × V)} {a : Addr} {fd : FuncData} {N ps fns : List Str} {cs : CS} {G : Gam} {sp : DSp} (F : FunD K x qual params body scope dvs kws a fd) (S : FnScope N ps scope)
    (hc : cSs n ⟨N, scope, fun _ => true, fns⟩ body = some cs) (e : GE P w K mg base k G) (hf : ∀ x, fns.contains x = true → (G.fn x).isSome = true) (hsp : ∀ ds H Q Y, sp ds H Q Y → ds.length = ps.length ∧ wS G cs (fin Q Y) (startD N ds) H) :
    FnOk P w K mg base (L2.CX P w) (k + 1) a fd ps (spV K sp) := by
  refine F.ok S (fun vs H Q E h => ?_) fun cdv A outer s H vs Q E hr h => ?_
  · obtain ⟨ds, Hd, R, Y, h1, h2, h3, _⟩ := h
    rw [← h1.length]
    exact (hsp _ _ _ _ h3).1
  · obtain ⟨ds, Hd, R, Y, h1, h2, h3, h4, h5⟩ := h
    have ok : Sok ⟨N, scope, fun _ => true, fns⟩ G (cxOf (L2.CX P w) P w K mg base N qual scope a cdv A outer s H E) := {
      e.ok (X := cxOf (L2.CX P w) P w K mg base N qual scope a cdv A outer s H E) (c := ⟨N, scope, fun _ => true, fns⟩) rfl rfl rfl rfl rfl rfl hr rfl S.nd rfl rfl hf with
      po := passes_of (X := cxOf (L2.CX P w) P w K mg base N qual scope a cdv A outer s H E) (K := fun e s'' => L2.CX P w outer H s E e s'') (E₁ := fun e' s'' => L2.CX P w outer H s E e' s'') rfl }
    have tk : Takes (cxOf (L2.CX P w) P w K mg base N qual scope a cdv A outer s H E) (fun c d _ H' => E c d H') := takes_of rfl rfl rfl (E₁ := fun e' s'' => L2.CX P w outer H s E e' s'') rfl
    refine ⟨_, (sndS n).ss hc ok _ tk, startD N ds, Hd, fin R Y, sr_start h1, h2, (hsp _ _ _ _ h3).2, ?_⟩
    exact {
      nx := fun δ Hd1 σ H1 ⟨H0, l, q⟩ s1 sr hr1 => h4 _ _ _ _ q (hr1.le l) (by simp only [Im])
      rt := fun d Hd1 v H1 ⟨H0, l, q⟩ s1 hr1 im => h4 _ _ _ _ q (hr1.le l) im
      bk := fun δ Hd1 σ H1 h => h.elim
      ct := fun δ Hd1 σ H1 h => h.elim
      ex := fun c fs δ Hd1 cls dd σ H1 ⟨H0, l, q⟩ s1 sr hr1 xr => h5 _ _ _ _ _ _ q (hr1.le l) xr }
end
/-! ### what the head finds -/
mutual
def dB (K : PySem.W.Frag) : D → Value → Bool
  | .non, .none => true
  | .bl b, .bool c => decide (b = c)
  | .int i, .int j _ => decide (i = j)
  | .str x, .str y _ => decide (y = S x) && x.all (· < 128)
  | .tup xs, .ref a => (match K.lookup a with
    | some ⟨.type c, _, .seq its _, _⟩ => decide (c = "tuple") && (decide (its.size ≤ sizeLine) && dBL K xs its.toList)
    | _ => false)
  | .cl xs, .ref a => (match K.lookup a with
    | some ⟨.type c, none, .seq its _, _⟩ => decide (c = "list") && (decide (its.size ≤ sizeLine) && dBL K xs its.toList)
    | _ => false)
  | _, _ => false
def dBL (K : PySem.W.Frag) : List D → List Value → Bool
  | [], [] => true
  | d :: ds, u :: us => dB K d u && dBL K ds us
  | _, _ => false
end
mutual
theorem dB_ok {K : PySem.W.Frag} : ∀ {d : D} {u : Value}, dB K d u = true → ∃ v, RelV v u ∧ ∀ H, Im K H d v
  | .non, u, h => by
    cases u <;> simp only [dB] at h <;> first
      | exact ⟨.non, rfl, fun H => by simp only [Im]⟩
      | cases h
  | .bl b, u, h => by
    cases u <;> simp only [dB] at h <;> first
      | (have e := of_decide_eq_true h; subst e; exact ⟨.bl _, rfl, fun H => by simp only [Im]⟩)
      | cases h
  | .int i, u, h => by
    cases u <;> simp only [dB] at h <;> first
      | (have e := of_decide_eq_true h; subst e; exact ⟨.int _, ⟨_, rfl⟩, fun H => by simp only [Im]⟩)
      | cases h
  | .str x, u, h => by
    cases u with
    | str y t =>
      simp only [dB] at h
      obtain ⟨h1, h2⟩ := He.ba h
      have e := of_decide_eq_true h1
      subst e
      refine ⟨.str _, ⟨_, rfl⟩, fun H => ?_⟩
      simp only [Im]
      exact ⟨trivial, fun c hc => by simpa using List.all_eq_true.mp h2 c hc⟩
    | _ => simp [dB] at h
  | .tup xs, u, h => by
    cases u with
    | ref a =>
      simp only [dB] at h
      split at h
      · rename_i c od its n sl q
        simp only [Bool.and_eq_true, decide_eq_true_eq] at h
        obtain ⟨h1, h2, h3⟩ := h
        obtain ⟨vs, r1, r2⟩ := dBL_ok h3
        refine ⟨.ref a, rfl, fun H => ?_⟩
        simp only [Im]
        exact ⟨a, vs, rfl, .inr ⟨_, its, n, q, by rw [h1], rfl, h2, r1⟩, r2 H⟩
      · cases h
    | _ => simp [dB] at h
  | .cl xs, u, h => by
    cases u with
    | ref a =>
      simp only [dB] at h
      split at h
      · rename_i c its n sl q
        simp only [Bool.and_eq_true, decide_eq_true_eq] at h
        obtain ⟨h1, h2, h3⟩ := h
        obtain ⟨vs, r1, r2⟩ := dBL_ok h3
        refine ⟨.ref a, rfl, fun H => ?_⟩
        simp only [Im]
        exact ⟨a, vs, rfl, .inr ⟨_, its, n, q, by rw [h1], rfl, rfl, h2, r1⟩, r2 H⟩
      · cases h
    | _ => simp [dB] at h
  | .ref a, u, h => by simp [dB] at h
  | .ty n, u, h => by simp [dB] at h
  | .kls c, u, h => by simp [dB] at h
theorem dBL_ok {K : PySem.W.Frag} : ∀ {ds : List D} {us : List Value}, dBL K ds us = true → ∃ vs, Vals vs us ∧ ∀ H, ImL K H ds vs
  | [], [], h => ⟨[], .nil, fun H => ImL.nil⟩
  | d :: ds, u :: us, h => by
    simp only [dBL, Bool.and_eq_true] at h
    obtain ⟨v, r1, r2⟩ := dB_ok h.1
    obtain ⟨vs, r3, r4⟩ := dBL_ok h.2
    exact ⟨v :: vs, .cons r1 r3, fun H => ImL.cons (r2 H) (r4 H)⟩
  | [], _ :: _, h => by simp [dBL] at h
  | _ :: _, [], h => by simp [dBL] at h
end
/-- the module's name x holds d -/
def gvB (K : PySem.W.Frag) (p : Str × D) : Bool := match PySem.W.nsIn K mainGlobals p.1 with
  | some (some u) => dB K p.2 u
  | _ => false
theorem gvB_ok {K : PySem.W.Frag} {h : Heap} {mg : Str → Option Value} {p : Str × D} (X : K.In h) (N : h.Ns mainGlobals mg) (c : gvB K p = true) : ∃ u, mg p.1 = some u ∧ ∃ v, RelV v u ∧ ∀ H, Im K H p.2 v := by
  unfold gvB at c
  split at c
  · rename_i u e
    exact ⟨u, PySem.W.mg_of X N e, dB_ok c⟩
  · cases c
def obsC (gs : List (Str × D)) (fa : List He.Fa) (fn : List He.DefD) (K : PySem.W.Frag) : He.AlD := (((He.obsD fa fn K).1 && gs.all (gvB K)), (He.obsD fa fn K).2)
def SaysC (gs : List (Str × D)) (fa : List He.Fa) (fn : List He.DefD) (K : PySem.W.Frag) : Prop := obsC gs fa fn K = He.valD fn
theorem SaysC.says {gs : List (Str × D)} {fa : List He.Fa} {fn : List He.DefD} {K : PySem.W.Frag} (c : SaysC gs fa fn K) : He.SaysD fa fn K ∧ gs.all (gvB K) = true := by
  have e1 := congrArg (fun z : He.AlD => z.1) c
  have e2 := congrArg (fun z : He.AlD => z.2) c
  obtain ⟨h1, h2⟩ := He.ba (show ((He.obsD fa fn K).1 && gs.all (gvB K)) = true from e1)
  refine ⟨?_, h2⟩
  show He.obsD fa fn K = He.valD fn
  exact Prod.ext h1 e2
def obsCG (n : Nat) (gs : List (Str × D)) (fa : List He.Fa) (fn : List He.DefD) (g : Addr → Option Obj) : He.AlD := obsC gs fa fn (He.frG g (He.asD g n))
def hookC (n : Nat) (gs : List (Str × D)) (fa : List He.Fa) (fn : List He.DefD) : PySem.W.Hook where
  α := He.AlD
  obs := fun s => obsCG n gs fa fn s.heap.get?
  val := fun _ => He.valD fn
  says := fun _ h => ∃ K : PySem.W.Frag, K.In h ∧ SaysC gs fa fn K
  of := fun _ _ e => ⟨_, He.frG_in, e⟩
  keeps := fun _ _ _ ⟨K, hK, c⟩ k => ⟨K, PySem.W.Frag.In.keeps hK k, c⟩
theorem obsCG_eq {n : Nat} {gs : List (Str × D)} {fa : List He.Fa} {fn : List He.DefD} {g : Addr → Option Obj} {s : Shared} (h : ∀ a, g a = s.heap.get? a) : obsCG n gs fa fn g = (hookC n gs fa fn).obs s := by
  have e : g = s.heap.get? := funext h
  rw [e] <;> rfl
/-- no class of the text is asked -/
theorem isin_none {G : Gam} (h : ∀ a b, G.isa a b = none) (Y : Cx) : IsinK G Y := by
  intro pins s σ H xs us Q I r q
  obtain ⟨ds, Hd, R, hr, il, q, k⟩ := q
  unfold isA2 at q
  split at q
  · split at q
    · rw [h] at q; exact q.elim
    · exact q.elim
  · exact q.elim
/-- the law's own def, at its call -/
theorem law_sp {K : PySem.W.Frag} {sp : DSp} {H : Hp} {a : Addr} {ns : List Int} (hO : Only H) (hS : SqL K H a (ns.map V.int)) (h : sp [.cl (ns.map .int)] (fun _ => none) (fun d _ => d = .bl true) noX) : spV K sp [.ref a] H (fun v _ => v = .bl true) fun _ _ _ => False := by
  have il : ∀ ns : List Int, ImL K H (ns.map D.int) (ns.map V.int) := fun ns => by
    induction ns with
    | nil => exact ImL.nil
    | cons n ns ih => exact ImL.cons (by simp only [Im]) ih
  have cl : ClL K H a (ns.map V.int) := by
    rcases hS with (h | ⟨o, h⟩) | h
    · rcases hO a with e | ⟨o, xs, e⟩
      · rw [e] at h; cases h
      · rw [e] at h; cases h
    · exact .inl ⟨o, h⟩
    · exact .inr h
  have im : Im K H (.cl (ns.map D.int)) (.ref a) := by
    simp only [Im]
    exact ⟨a, _, rfl, cl, il ns⟩
  refine ⟨[.cl (ns.map .int)], fun _ => none, fun d _ => d = .bl true, noX, ImL.cons im ImL.nil, fun b o e => (by cases e), h, fun d Hd' H' v e hr im => ?_, fun _ _ _ _ _ _ z => z.elim⟩
  subst e
  simp only [Im] at im
  exact im
end CT

/-! CT14: the plain law's tools: heaps, loops, comprehensions. -/
namespace CT
open PySem PySem.Spec PyProof.Rows
theorem nn {H : DH} {p q : Addr} {o : DO} (h : ud H p o q = none) : q ≠ p ∧ H q = none := by
  by_cases z : q = p
  · subst z; rw [ud_same] at h; cases h
  · rw [ud_ne z] at h; exact ⟨z, h⟩
theorem Le.udc {H H1 : DH} {p : Addr} {o : DO} (h : Le H H1) : Le (CT.ud H p o) (CT.ud H1 p o) := fun q u e => by
  by_cases z : q = p
  · subst z; rw [ud_same] at e ⊢; exact e
  · rw [ud_ne z] at e ⊢; exact h q u e
theorem Le.up {H H1 : DH} {p : Addr} {o : DO} (n : H p = none) (h : Le (CT.ud H p o) H1) : Le H H1 := (Le.refl H |>.ud n).trans h
theorem Le.ne {H H1 : DH} {p : Addr} (h : Le H H1) (n : H1 p = none) : H p = none := by
  cases e : H p with
  | none => rfl
  | some o => rw [h p o e] at n; cases n
theorem fg_le {Q : DQ} {d : D} {H0 H : DH} (l : Le H0 H) (h : Q d H0) : fg Q d H := ⟨H0, l, h⟩
/-- a new thing, handed out; what else was made is forgotten -/
theorem fg_new {Q : DQ} {H H1 : DH} {r : Addr} {o : DO} (l : Le H H1) (n : H1 r = none) (h : new H o Q) : fg Q (.ref r) (ud H1 r o) := ⟨_, l.udc, h r (l.ne n)⟩
/-- a comprehension whose parts leave the heap: over l.map s, kept by f, told by g -/
theorem lc_map {α : Type} {keep : DH → Prop} {tg : D → DS → DH → (DS → DH → Prop) → Prop} {tc : DTT} {te : DTE} {p : Addr} {δ : DS} {Q : DH → Prop} {H : DH} (s : α → D) (f : α → Bool) (g : α → D) (hk : ∀ acc, keep (ud H p (.lst acc))) :
    ∀ (l : List α) (acc : List D), (∀ a ∈ l, ∀ (acc : List D) (N : List D → DH → Prop), acc.length < sizeLine → (f a = true → N (acc ++ [g a]) (ud H p (.lst (acc ++ [g a])))) → (f a = false → N acc (ud H p (.lst acc))) →
      tg (s a) δ (ud H p (.lst acc)) fun δ1 H1 => tc δ1 H1 (fun b H2 => match b with
      | true => te δ1 H2 (fun y H3 => H3 p = some (.lst acc) ∧ acc.length < sizeLine ∧ N (acc ++ [y]) (ud H3 p (.lst (acc ++ [y])))) noX
      | false => N acc H2) noX) →
    acc.length + l.length ≤ sizeLine → Q (ud H p (.lst (acc ++ (l.filter f).map g))) → lcGo keep tg tc te p δ Q (l.map s) acc (ud H p (.lst acc))
  | [], acc, _, _, q => by
    simp only [List.map_nil, lcGo]
    exact ⟨hk acc, ud_same, by simpa using q⟩
  | a :: l, acc, hs, hl, q => by
    simp only [List.map_cons, lcGo]
    rw [List.length_cons] at hl
    have ih := fun acc => lc_map (Q := Q) s f g hk l acc fun e he => hs e (List.mem_cons_of_mem _ he)
    refine ⟨hk acc, hs a List.mem_cons_self acc (fun b H' => lcGo keep tg tc te p δ Q (l.map s) b H') (by omega) (fun e => ?_) fun e => ?_⟩
    · refine ih _ (by rw [List.length_append, List.length_cons, List.length_nil]; omega) ?_
      rw [List.filter_cons_of_pos e, List.map_cons] at q
      simpa using q
    · refine ih _ (by omega) ?_
      rw [List.filter_cons_of_neg (by rw [e]; exact Bool.false_ne_true)] at q
      exact q
/-- .. without a condition -/
theorem lc_all {α : Type} {keep : DH → Prop} {tg : D → DS → DH → (DS → DH → Prop) → Prop} {te : DTE} {p : Addr} {δ : DS} {Q : DH → Prop} {H : DH} (s : α → D) (g : α → D) (l : List α) (hk : ∀ acc, keep (ud H p (.lst acc)))
    (hs : ∀ a ∈ l, ∀ (acc : List D) (N : List D → DH → Prop), acc.length < sizeLine → N (acc ++ [g a]) (ud H p (.lst (acc ++ [g a]))) →
      tg (s a) δ (ud H p (.lst acc)) fun δ1 H1 => te δ1 H1 (fun y H3 => H3 p = some (.lst acc) ∧ acc.length < sizeLine ∧ N (acc ++ [y]) (ud H3 p (.lst (acc ++ [y])))) noX)
    (hl : l.length ≤ sizeLine) (q : Q (ud H p (.lst (l.map g)))) : lcGo keep tg (fun δ H R Y => R true H) te p δ Q (l.map s) [] (ud H p (.lst [])) :=
  lc_map s (fun _ => true) g hk l [] (fun a ha acc N hz h1 _ => hs a ha acc N hz (h1 rfl)) (by simpa using hl) (by
    rw [List.filter_eq_self.mpr (fun _ _ => rfl)]
    exact q)
theorem for_inv {keep : DH → Prop} {tg : D → DS → DH → (DS → DH → Prop) → Prop} {tb : DTS} {E : DE} {ds : List D} (I : Nat → DS → DH → Prop)
    (step : ∀ i d, ds[i]? = some d → ∀ δ H, I i δ H → ∀ N : DS → DH → Prop, (∀ δ H, I (i + 1) δ H → N δ H) → keep H ∧ tg d δ H fun δ1 H1 => tb { E with nx := N, ct := N, bk := E.nx } δ1 H1)
    (last : ∀ δ H, I ds.length δ H → keep H ∧ E.nx δ H) {δ : DS} {H : DH} (h0 : I 0 δ H) : forGo keep tg tb E ds δ H := by
  have go : ∀ n i, i + n = ds.length → ∀ δ H, I i δ H → forGo keep tg tb E (ds.drop i) δ H := by
    intro n
    induction n with
    | zero =>
      intro i e δ H h
      have e : i = ds.length := by omega
      subst e
      rw [List.drop_length]
      simp only [forGo]
      exact last δ H h
    | succ n ih =>
      intro i e δ H h
      have hlt : i < ds.length := by omega
      rw [List.drop_eq_getElem_cons hlt]
      simp only [forGo]
      exact step i _ (List.getElem?_eq_getElem hlt) δ H h _ fun δ H h => ih (i + 1) (by omega) δ H h
  have q := go ds.length 0 (by omega) δ H h0
  rwa [List.drop_zero] at q
theorem rngL_mem {lo : Int} {n : Nat} {d : D} (h : d ∈ rngL lo n) : ∃ i : Nat, i < n ∧ d = .int (lo + i) := by
  obtain ⟨i, hi⟩ := List.mem_iff_getElem?.mp h
  have l := (List.getElem?_eq_some_iff.mp hi).1
  rw [rngL_len] at l
  rw [rngL_get n i lo l] at hi
  exact ⟨i, l, by cases hi; rfl⟩
theorem opS {α : Type} {a : α} {Q : α → Prop} : optP (some a) Q = Q a := rfl
theorem trB {H : DH} {b : Bool} : tru H (.bl b) = some b := rfl
theorem eqD_str {x y : List Nat} : eqD (.str x) (.str y) = decide (x = y) := by
  simp only [eqD]
  by_cases h : x = y
  · subst h; simp
  · simp [h]
theorem inL_str {x : List Nat} : ∀ {l : List (List Nat)}, inL (.str x) (l.map .str) = decide (x ∈ l)
  | [] => by simp [inL]
  | y :: l => by
    have ih := inL_str (x := x) (l := l)
    simp only [inL, List.map_cons, List.any_cons] at ih ⊢
    rw [ih, eqD_str]
    by_cases h : y = x
    · subst h; simp
    · have h2 : ¬ x = y := fun e => h e.symm
      simp [h, h2]
theorem purL_str : ∀ (l : List (List Nat)), purL (l.map .str) = true
  | [] => rfl
  | y :: l => by simp only [List.map_cons, purL, pur, Bool.true_and]; exact purL_str l
theorem depL_str : ∀ (l : List (List Nat)), depL (l.map .str) = 0
  | [] => rfl
  | y :: l => by simp only [List.map_cons, depL, dep]; rw [depL_str l]; rfl
theorem in_strs {H : DH} {x : List Nat} {l : List (List Nat)} : inO H (.str x) (.cl (l.map .str)) = some (decide (x ∈ l)) := by
  simp only [inO, pur, purL_str, dep, depL_str, inL_str]
  rfl
theorem in_strsR {H : DH} {x : List Nat} {l : List (List Nat)} {p : Addr} (h : H p = some (.lst (l.map .str))) : inO H (.str x) (.ref p) = some (decide (x ∈ l)) := by
  simp only [inO, h, pur, purL_str, dep, depL_str, inL_str]
  rfl
theorem in_sign {H : DH} {c : Nat} {z : List Nat} : inO H (.str [c]) (.str z) = some (decide (c ∈ z)) := rfl
theorem allB_of {α : Type} (f : α → Bool) : ∀ l : List α, CT.allB (l.map fun a => .bl (f a)) = some (l.all f)
  | [] => rfl
  | a :: l => by
    simp only [List.map_cons, CT.allB, allB_of f l, Option.map_some, List.all_cons]
theorem isin_str {G : Gam} {H : DH} {x : List Nat} : isinO G H (.str x) (.ty "str") = some true := by
  simp only [isinO, tyO]
  decide
theorem mem_two {α : Type} [DecidableEq α] (x : α) (l : List α) (n : Nat) : decide (x ∈ l) = (decide (x ∈ l.take n) || decide (x ∈ l.drop n)) := by
  rw [← Bool.decide_or]
  refine decide_eq_decide.mpr ?_
  rw [← List.mem_append, List.take_append_drop]
theorem lsAt_le {H H' : DH} {d : D} {xs : List D} (l : Le H H') (h : lsAt H d = some xs) : lsAt H' d = some xs := by
  cases d with
  | cl ys => exact h
  | ref a =>
    simp only [lsAt] at h ⊢
    split at h
    · rename_i ys e
      rw [l _ _ e]
      exact h
    · cases h
  | _ => cases h
theorem len_ls {H : DH} {d : D} {xs : List D} (h : lsAt H d = some xs) : lenO H d = some xs.length := by
  cases d with
  | cl ys => cases h; rfl
  | ref a =>
    simp only [lsAt] at h
    split at h
    · rename_i ys e
      cases h
      simp only [lenO, e]
    · cases h
  | _ => cases h
theorem idx_ls {H : DH} {d : D} {xs : List D} (h : lsAt H d = some xs) (k : Int) (Q : DQ) : idxO d (.int k) H Q = optP (L2.atI xs k) fun v => Q v H := by
  cases d with
  | cl ys => cases h; rfl
  | ref a =>
    simp only [lsAt] at h
    split at h
    · rename_i ys e
      cases h
      simp only [idxO, e]
    · cases h
  | _ => cases h
theorem atI_in {α : Type} {xs : List α} {i : Int} (h0 : 0 ≤ i) (h1 : i < xs.length) : ∃ v, v ∈ xs ∧ L2.atI xs i = some v ∧ xs[i.toNat]? = some v := by
  have hl : i.toNat < xs.length := by omega
  have e : xs[i.toNat]? = some xs[i.toNat] := List.getElem?_eq_getElem hl
  refine ⟨xs[i.toNat], List.getElem_mem hl, ?_, e⟩
  unfold L2.atI L2.ixN
  rw [if_pos h0, if_pos h1]
  exact e
theorem atI_map {α : Type} {f : α → D} {xs : List α} {i : Int} (h0 : 0 ≤ i) (h1 : i < xs.length) : ∃ v, v ∈ xs ∧ L2.atI (xs.map f) i = some (f v) ∧ xs[i.toNat]? = some v := by
  obtain ⟨v, m, e, g⟩ := atI_in h0 h1
  refine ⟨v, m, ?_, g⟩
  unfold L2.atI L2.ixN
  rw [List.length_map, if_pos h0, if_pos h1]
  show (xs.map f)[i.toNat]? = _
  rw [List.getElem?_map, g]
  rfl
theorem cut_len {α : Type} (xs : List α) (a b : Option Int) : (cut xs a b).length ≤ xs.length := by
  unfold cut
  rw [List.length_take, List.length_drop]
  omega
theorem joinL_len (s : List Nat) : ∀ ys : List (List Nat), (TL.joinL s ys).length ≤ (ys.map (·.length)).sum + ys.length * s.length
  | [] => by simp [TL.joinL]
  | [y] => by simp [TL.joinL]
  | y :: z :: r => by
    have ih := joinL_len s (z :: r)
    simp only [TL.joinL, List.length_append, List.map_cons, List.sum_cons, List.length_cons] at ih ⊢
    have e : (r.length + 1 + 1) * s.length = (r.length + 1) * s.length + s.length := by rw [Nat.add_mul (r.length + 1) 1, Nat.one_mul]
    rw [e]
    omega
theorem strsD_of {α : Type} (f : α → List Nat) : ∀ l : List α, strsD (l.map fun a => .str (f a)) = some (l.map f)
  | [] => rfl
  | a :: l => by simp only [List.map_cons, strsD, strsD_of f l, Option.map_some]
theorem eqO_nilR {H : DH} {a b : Addr} {l : List (List Nat)} (h1 : H a = some (.lst (l.map .str))) (h2 : H b = some (.lst [])) : eqO H (.ref a) (.ref b) = some l.isEmpty := by
  simp only [eqO, lsAt, h1, h2, purL_str, depL_str]
  cases l <;> rfl
theorem eqO_bl {H : DH} {a b : Bool} : eqO H (.bl a) (.bl b) = some (a == b) := rfl
theorem eqO_int {H : DH} {a b : Int} : eqO H (.int a) (.int b) = some (a == b) := rfl
theorem sqAt_ls {H : DH} {p : Addr} {xs : List D} (h : H p = some (.lst xs)) : sqAt H (.ref p) = some xs := by
  simp only [sqAt, lsAt, h]
/-! what the parts do, applied -/
section
variable {H : DH} {Q : DQ} {i j : Int} {x y : D}
theorem bin_addI : binO .Add (.int i) (.int j) H Q = Q (.int (i + j)) H := rfl
theorem bin_addS {a b : List Nat} : binO .Add (.str a) (.str b) H Q = (a.length + b.length ≤ sizeLine ∧ Q (.str (a ++ b)) H) := rfl
theorem bin_addT {a b : List D} : binO .Add (.tup a) (.tup b) H Q = (a.length + b.length ≤ sizeLine ∧ Q (.tup (a ++ b)) H) := rfl
theorem bin_addL {a b : Addr} {xs ys : List D} (h1 : H a = some (.lst xs)) (h2 : H b = some (.lst ys)) : binO .Add (.ref a) (.ref b) H Q = (xs.length + ys.length ≤ sizeLine ∧ new H (.lst (xs ++ ys)) Q) := by
  simp only [binO, h1, h2]
theorem bin_sub : binO .Sub (.int i) (.int j) H Q = Q (.int (i - j)) H := rfl
theorem bin_mul : binO .Mult (.int i) (.int j) H Q = (((-(2 ^ 64) < i ∧ i < 2 ^ 64) ∨ (-(2 ^ 64) < j ∧ j < 2 ^ 64)) ∧ Q (.int (i * j)) H) := rfl
theorem bin_div : binO .FloorDiv (.int i) (.int j) H Q = ((0 < j ∧ j < 1073741824) ∧ Q (.int (i / j)) H) := rfl
theorem bin_mod : binO .Mod (.int i) (.int j) H Q = (0 < j ∧ Q (.int (i % j)) H) := rfl
theorem cmp_eq : cmpO .Eq H x y = eqO H x y := rfl
theorem cmp_ne : cmpO .NotEq H x y = (eqO H x y).map (!·) := rfl
theorem cmp_in : cmpO .In H x y = inO H x y := rfl
theorem cmp_nin : cmpO .NotIn H x y = (inO H x y).map (!·) := rfl
theorem cmp_lt : cmpO .Lt H (.int i) (.int j) = some (decide (i < j)) := rfl
theorem cmp_le : cmpO .LtE H (.int i) (.int j) = some (decide (i ≤ j)) := rfl
theorem cmp_gt : cmpO .Gt H (.int i) (.int j) = some (decide (j < i)) := rfl
theorem cmp_ge : cmpO .GtE H (.int i) (.int j) = some (decide (j ≤ i)) := rfl
theorem idx_str {z : List Nat} : idxO (.str z) (.int i) H Q = (z.length ≤ sizeLine ∧ optP (L2.atI z i) fun c => Q (.str [c]) H) := rfl
theorem idx_lst {p : Addr} {xs : List D} (h : H p = some (.lst xs)) : idxO (.ref p) (.int i) H Q = optP (L2.atI xs i) fun v => Q v H := by simp only [idxO, h]
theorem idx_tup {xs : List D} : idxO (.tup xs) (.int i) H Q = optP (L2.atI xs i) fun v => Q v H := rfl
theorem slc_str {z : List Nat} {a b : Option Int} : slcO (.str z) a b H Q = (z.length ≤ sizeLine ∧ Q (.str (cut z a b)) H) := rfl
theorem slc_tup {z : List D} {a b : Option Int} : slcO (.tup z) a b H Q = Q (.tup (cut z a b)) H := rfl
theorem lenO_str {z : List Nat} : lenO H (.str z) = some z.length := rfl
theorem lenO_tup {z : List D} : lenO H (.tup z) = some z.length := rfl
theorem bm_join {s : List Nat} : bmO .join (.str s) [x] H Q = optP ((sqAt H x).bind strsD) fun ys => (ys.map (·.length)).sum + ys.length * s.length ≤ 16777216 ∧ Q (.str (TL.joinL s ys)) H := rfl
theorem bt_join {s : List Nat} : bmT .join (.str s) H = true := rfl
theorem bt_app : bmT .append x H = isL H x := rfl
theorem bm_app {p : Addr} {xs : List D} {v : D} (h : H p = some (.lst xs)) : bmO .append (.ref p) [v] H Q = (xs.length < sizeLine ∧ Q .non (ud H p (.lst (xs ++ [v])))) := by simp only [bmO, h]
theorem isL_at {p : Addr} {xs : List D} (h : H p = some (.lst xs)) : isL H (.ref p) = true := by simp only [isL, h]
theorem bi_len : ∀ {G : Gam}, biO G .len [x] H Q = optP (lenO H x) fun n => n ≤ sizeLine ∧ Q (.int n) H := rfl
theorem rng1_int {R : List D → (DH → Prop) → DH → Prop} : rng1O (.int j) H R = ((-(2 ^ 62) ≤ j ∧ j < 2 ^ 62) ∧ R (rngL 0 j.toNat) (fun _ => True) H) := rfl
theorem part_int : partI (.int i) = some (some i) := rfl
end
theorem sz {n : Nat} (h : n ≤ 100000) : (n ≤ sizeLine) = True := eq_true (Nat.le_trans h (by decide))
theorem rngL_map (lo : Int) : ∀ n, rngL lo n = (List.range' 0 n).map fun i => D.int (lo + (i : Nat)) := fun n => by
  refine List.ext_getElem? fun i => ?_
  rw [List.getElem?_map]
  by_cases h : i < n
  · rw [rngL_get n i lo h, List.getElem?_range' h]
    simp
  · rw [List.getElem?_eq_none (by rw [rngL_len]; omega), List.getElem?_eq_none (by rw [List.length_range']; omega)]
    rfl
end CT

/-! CT15: the head's facts put to use. -/
namespace CT
open PySem PySem.Spec PyProof.Rows L2
def freeB (fa : List He.Fa) : Bool := bnames.all fun p => fa.any fun f => match f with
  | .free x => decide (x = p.1)
  | _ => false
section
variable {P : Program} {w : World} {K : PySem.W.Frag} {mg : Str → Option Value} {base h : Heap} {gs : List (Str × D)} {fa : List He.Fa} {fn : List He.DefD}
theorem free_all (X : K.In h) (N : h.Ns mainGlobals mg) (c : SaysC gs fa fn K) (hf : freeB fa = true) : ∀ p ∈ bnames, mg p.1 = none := fun p hp => by
  obtain ⟨f, m, e⟩ := List.any_eq_true.mp (List.all_eq_true.mp hf p hp)
  cases f with
  | free x =>
    have e := of_decide_eq_true e
    subst e
    obtain ⟨i, hi⟩ := List.mem_iff_getElem?.mp m
    exact He.free_ok X N (He.SaysD.fact c.says.1 i hi)
  | _ => cases e
theorem gv_all (X : K.In h) (N : h.Ns mainGlobals mg) (c : SaysC gs fa fn K) {x : Str} {d : D} (e : gs.lookup x = some d) : ∃ u, mg x = some u ∧ ∃ v, RelV v u ∧ ∀ H, Im K H d v :=
  gvB_ok (p := (x, d)) X N (List.all_eq_true.mp c.says.2 _ (look_mem e))
theorem ge_of (X : K.In h) (N : h.Ns mainGlobals mg) (c : SaysC gs fa fn K) (hf : freeB fa = true) {G : Gam} {k : Nat} (hgv : G.gv = fun x => gs.lookup x) (hi : ∀ Y : Cx, Y.K = K → IsinK G Y) (hfn : ∀ f sp, G.fn f = some sp → Fn P w K mg base k f sp) : GE P w K mg base k G :=
  ⟨hfn, free_all X N c hf, fun x d e => by
    rw [hgv] at e
    exact gv_all X N c e, hi⟩
/-- the law's own def lets nothing out -/
theorem fnok_cx0 {k : Nat} {f : Addr} {fd : FuncData} {ps : List Str} {sp sp' : Sp} (F : FnOk P w K mg base (L2.CX P w) k f fd ps sp) (h : ∀ vs H Q E, sp' vs H Q E → sp vs H Q fun _ _ _ => False) : FnOk P w K mg base L2.CX0 k f fd ps sp' := by
  refine ⟨fun vs H Q E q => F.len _ _ _ _ (h _ _ _ _ q), fun A outer s H args us vs Q E hr e0 hb hv q => ?_⟩
  refine codeAny_mono (F.run A outer s H args us vs _ _ hr e0 hb hv (h _ _ _ _ q)) fun r s' z => ?_
  cases r with
  | error e =>
    obtain ⟨a, B, H', cls, d, h1, h2, h3, h4, h5, h6, h7, h8⟩ := z
    exact h8.elim
  | ok fl =>
    cases fl with
    | ret u => exact z
    | next => exact z.elim
    | brk => exact z.elim
    | cont => exact z.elim
end
end CT

namespace CL
open PySem PySem.Spec PyProof.Rows L2 CT
def top (i : Nat) : Stmt := PySem.Challenge.pw_calltower_k01_names.main.body.getD i (.Pass ⟨0, 0, 0, 0⟩)
def fn : List He.DefD := ([⟨((Str.ofString "is_name"), none), (Str.ofString "is_name"), (Str.ofString "is_name"), defArgs (top 6), defBody (top 6), defScope (top 6), [], []⟩,
  ⟨((Str.ofString "_law_kept"), none), (Str.ofString "_law_kept"), (Str.ofString "_law_kept"), defArgs (top 8), defBody (top 8), defScope (top 8), [], []⟩,
  ⟨((Str.ofString "_law_is_name"), none), (Str.ofString "_law_is_name"), (Str.ofString "_law_is_name"), defArgs (top 9), defBody (top 9), defScope (top 9), [], []⟩,
  ⟨((Str.ofString "_law_row"), none), (Str.ofString "_law_row"), (Str.ofString "_law_row"), defArgs (top 10), defBody (top 10), defScope (top 10), [], []⟩,
  ⟨((Str.ofString "_law_thing"), none), (Str.ofString "_law_thing"), (Str.ofString "_law_thing"), defArgs (top 11), defBody (top 11), defScope (top 11), [], []⟩,
  ⟨((Str.ofString "law"), none), (Str.ofString "law"), (Str.ofString "law"), defArgs (top 12), defBody (top 12), defScope (top 12), [], []⟩] : List He.DefD)
def fa : List He.Fa := ([.free (Str.ofString "len"), .free (Str.ofString "isinstance"), .free (Str.ofString "max"), .free (Str.ofString "min"), .free (Str.ofString "all"), .free (Str.ofString "any"), .free (Str.ofString "sum"), .free (Str.ofString "list"), .free (Str.ofString "tuple"), .free (Str.ofString "dict"), .free (Str.ofString "str"), .free (Str.ofString "int"), .free (Str.ofString "bool"), .free (Str.ofString "sorted"), .free (Str.ofString "set"), .free (Str.ofString "repr"), .free (Str.ofString "range"), .free (Str.ofString "enumerate"), .free (Str.ofString "ValueError"), .glo (Str.ofString "is_name"), .glo (Str.ofString "_law_kept"), .glo (Str.ofString "_law_is_name"), .glo (Str.ofString "_law_row"), .glo (Str.ofString "_law_thing"), .glo (Str.ofString "law")] : List He.Fa)
def gs : List (Str × D) := ([((Str.ofString "LETTERS"), (.str [97, 98, 99, 100, 101, 102, 103, 104, 105, 106, 107, 108, 109, 110, 111, 112, 113, 114, 115, 116, 117, 118, 119, 120, 121, 122])),
  ((Str.ofString "SIGNS"), (.str [97, 98, 99, 100, 101, 102, 103, 104, 105, 106, 107, 108, 109, 110, 111, 112, 113, 114, 115, 116, 117, 118, 119, 120, 121, 122, 48, 49, 50, 51, 52, 53, 54, 55, 56, 57])),
  ((Str.ofString "WORDS"), (.cl [(.str [121, 101, 115]), (.str [110, 111]), (.str [110, 111, 116]), (.str [97, 110, 100]), (.str [111, 114]), (.str [105, 115]), (.str [115, 104, 97, 114, 101, 100]), (.str [104, 101, 108, 112, 101, 114]), (.str [111, 119, 110]), (.str [115, 101, 116]), (.str [116, 111]), (.str [97, 110, 121]), (.str [105, 102]), (.str [101, 108, 115, 101]), (.str [119, 104, 105, 108, 101])])),
  ((Str.ofString "MORE_WORDS"), (.cl [(.str [99, 97, 108, 108]), (.str [108, 101, 116]), (.str [98, 101]), (.str [103, 105, 118, 101]), (.str [99, 104, 101, 99, 107]), (.str [109, 97, 114, 107])])),
  ((Str.ofString "MOST_SIGNS"), (.int 8))] : List (Str × D))
abbrev R : PySem.W.OpenRow := PySem.W.OpenLaw.row PySem.Challenge.rw_calltower_k01_names
abbrev hk : PySem.W.Hook := hookC 5 gs fa fn
def ob (s : PySem.W.SharedT) : He.AlD := obsCG 5 gs fa fn (HandSHeadRun.getT s)
theorem ob_eq (s : PySem.W.SharedT) : ob s = hk.obs s.abs := obsCG_eq (HandSHeadRun.getT_eq s)
def loose : List PySem.Str := ([PySem.Str.ofString "is_name", PySem.Str.ofString "_law_kept", PySem.Str.ofString "_law_is_name", PySem.Str.ofString "_law_row", PySem.Str.ofString "_law_thing", PySem.Str.ofString "LETTERS", PySem.Str.ofString "SIGNS", PySem.Str.ofString "WORDS", PySem.Str.ofString "MORE_WORDS", PySem.Str.ofString "MOST_SIGNS"] : List PySem.Str)
theorem run (w : World) : HandSHeadRun.RunEq R (PySem.W.view R.prog [12]) hk ob 20000 loose w := by
  intro os
  kernel_rfl
def n_is_name : List Str := ([(Str.ofString "thing"), (Str.ofString "sign")] : List Str)
def p_is_name : List Str := ([(Str.ofString "thing")] : List Str)
def c_is_name_1 : CS := (.seq (.ret (.and_ (.bc .all (.cons (.lc [1] (.var 1) (.seqI (.var 0)) .nil (.cmp .In (.var 1) (.glb (Str.ofString "SIGNS")))) .nil)) (.and_ (.cmp .NotIn (.var 0) (.glb (Str.ofString "WORDS"))) (.cmp .NotIn (.var 0) (.glb (Str.ofString "MORE_WORDS")))))) .skip)
def c_is_name_b1 : CS := 
  (.seq (.ret (.con (.bl false))) .skip)
def c_is_name : CS := (.seq (.iff (.or_ (.not_ (.bc .isin (.cons (.var 0) (.cons (.con (.ty "str")) .nil)))) (.or_ (.not_ (.chn .LtE .LtE (.con (.int 1)) (.bc .len (.cons (.var 0) .nil)) (.glb (Str.ofString "MOST_SIGNS")))) (.cmp .NotIn (.idx (.var 0) (.con (.int 0))) (.glb (Str.ofString "LETTERS"))))) c_is_name_b1 .skip) c_is_name_1)
def f_is_name : List Str := ([] : List Str)
theorem cc_is_name : cSs 200 ⟨n_is_name, defScope (top 6), fun _ => true, f_is_name⟩ (defBody (top 6)) = some c_is_name := by kernel_rfl
theorem sc_is_name : FnScope n_is_name p_is_name (defScope (top 6)) := C8.fnScope_by (by kernel_rfl)
theorem bd_is_name {K : PySem.W.Frag} {x qual : Str} {a : Addr} {fd : FuncData} (F : FunD K x qual (defArgs (top 6)) (defBody (top 6)) (defScope (top 6)) [] [] a fd) : Binds K fd p_is_name [] := FunD.bindsN F fun _ _ _ _ _ _ us hl => match us, hl with | [_], _ => rfl
def n__law_kept : List Str := ([(Str.ofString "_law_some")] : List Str)
def p__law_kept : List Str := ([] : List Str)
def c__law_kept_1 : CS := (.seq (.ret (.bin .Add (.var 0) (.lst (.cons (.con (.str [119, 104, 105, 108, 101])) (.cons (.con (.str [99, 97, 108, 108])) (.cons (.con (.str [108, 101, 116])) (.cons (.con (.str [98, 101])) (.cons (.con (.str [103, 105, 118, 101])) (.cons (.con (.str [99, 104, 101, 99, 107])) (.cons (.con (.str [109, 97, 114, 107])) .nil)))))))))) .skip)
def c__law_kept : CS := (.seq (.asg (.var 0) (.lst (.cons (.con (.str [121, 101, 115])) (.cons (.con (.str [110, 111])) (.cons (.con (.str [110, 111, 116])) (.cons (.con (.str [97, 110, 100])) (.cons (.con (.str [111, 114])) (.cons (.con (.str [105, 115])) (.cons (.con (.str [115, 104, 97, 114, 101, 100])) (.cons (.con (.str [104, 101, 108, 112, 101, 114])) (.cons (.con (.str [111, 119, 110])) (.cons (.con (.str [115, 101, 116])) (.cons (.con (.str [116, 111])) (.cons (.con (.str [97, 110, 121])) (.cons (.con (.str [105, 102])) (.cons (.con (.str [101, 108, 115, 101])) .nil)))))))))))))))) c__law_kept_1)
def f__law_kept : List Str := ([] : List Str)
theorem cc__law_kept : cSs 200 ⟨n__law_kept, defScope (top 8), fun _ => true, f__law_kept⟩ (defBody (top 8)) = some c__law_kept := by kernel_rfl
theorem sc__law_kept : FnScope n__law_kept p__law_kept (defScope (top 8)) := C8.fnScope_by (by kernel_rfl)
theorem bd__law_kept {K : PySem.W.Frag} {x qual : Str} {a : Addr} {fd : FuncData} (F : FunD K x qual (defArgs (top 8)) (defBody (top 8)) (defScope (top 8)) [] [] a fd) : Binds K fd p__law_kept [] := FunD.bindsN F fun _ _ _ _ _ _ us hl => match us, hl with | [], _ => rfl
def n__law_is_name : List Str := ([(Str.ofString "_law_text"), (Str.ofString "_law_some"), (Str.ofString "_law_sign")] : List Str)
def p__law_is_name : List Str := ([(Str.ofString "_law_text")] : List Str)
def c__law_is_name_2 : CS := (.seq (.ret (.cmp .Eq (.lc [2] (.var 2) (.seqI (.var 0)) (.cons (.cmp .NotIn (.var 2) (.bin .Add (.var 1) (.con (.str [48, 49, 50, 51, 52, 53, 54, 55, 56, 57])))) .nil) (.var 2)) (.lst .nil))) .skip)
def c__law_is_name_b1 : CS := 
  (.seq (.ret (.con (.bl false))) .skip)
def c__law_is_name_1 : CS := (.seq (.iff (.or_ (.not_ (.bc .isin (.cons (.var 0) (.cons (.con (.ty "str")) .nil)))) (.or_ (.not_ (.chn .LtE .LtE (.con (.int 1)) (.bc .len (.cons (.var 0) .nil)) (.con (.int 8)))) (.or_ (.cmp .NotIn (.idx (.var 0) (.con (.int 0))) (.var 1)) (.cmp .In (.var 0) (.call (Str.ofString "_law_kept") .nil))))) c__law_is_name_b1 .skip) c__law_is_name_2)
def c__law_is_name : CS := (.seq (.asg (.var 1) (.con (.str [97, 98, 99, 100, 101, 102, 103, 104, 105, 106, 107, 108, 109, 110, 111, 112, 113, 114, 115, 116, 117, 118, 119, 120, 121, 122]))) c__law_is_name_1)
def f__law_is_name : List Str := ([(Str.ofString "_law_kept")] : List Str)
theorem cc__law_is_name : cSs 200 ⟨n__law_is_name, defScope (top 9), fun _ => true, f__law_is_name⟩ (defBody (top 9)) = some c__law_is_name := by kernel_rfl
theorem sc__law_is_name : FnScope n__law_is_name p__law_is_name (defScope (top 9)) := C8.fnScope_by (by kernel_rfl)
theorem bd__law_is_name {K : PySem.W.Frag} {x qual : Str} {a : Addr} {fd : FuncData} (F : FunD K x qual (defArgs (top 9)) (defBody (top 9)) (defScope (top 9)) [] [] a fd) : Binds K fd p__law_is_name [] := FunD.bindsN F fun _ _ _ _ _ _ us hl => match us, hl with | [_], _ => rfl
def n__law_row : List Str := ([(Str.ofString "_law_script"), (Str.ofString "_law_many"), (Str.ofString "_law_found"), (Str.ofString "_law_more"), (Str.ofString "_law_k"), (Str.ofString "_law_cell")] : List Str)
def p__law_row : List Str := ([(Str.ofString "_law_script"), (Str.ofString "_law_many")] : List Str)
def c__law_row_3 : CS := (.seq (.ret (.var 2)) .skip)
def c__law_row_b1 : CS := 
  (.seq (.asg (.var 5) (.idx (.var 0) (.bin .Mod (.var 4) (.bc .len (.cons (.var 0) .nil))))) .skip)
def c__law_row_b2 : CS := 
  (.seq (.asg (.var 5) (.con (.int 0))) 
  (.seq (.iff (.cmp .Gt (.bc .len (.cons (.var 0) .nil)) (.con (.int 0))) c__law_row_b1 .skip) 
  (.seq (.asg (.var 3) (.bin .Mod (.bin .Add (.bin .Add (.bin .Mult (.var 3) (.con (.int 48271))) (.var 5)) (.var 4)) (.con (.int 2147483647)))) 
  (.seq (.exp (.bm (.var 2) .append (.cons (.bin .Mod (.bin .Add (.bin .Mult (.var 3) (.var 3)) (.bin .Mult (.con (.int 16807)) (.var 3))) (.con (.int 2147483629))) .nil))) .skip))))
def c__law_row_2 : CS := (.seq (.forr (.var 4) (.rng1I (.bc .max (.cons (.var 1) (.cons (.bin .Add (.bc .len (.cons (.var 0) .nil)) (.var 1)) .nil)))) c__law_row_b2) c__law_row_3)
def c__law_row_1 : CS := (.seq (.asg (.var 3) (.con (.int 7))) c__law_row_2)
def c__law_row : CS := (.seq (.asg (.var 2) (.lst .nil)) c__law_row_1)
def f__law_row : List Str := ([] : List Str)
theorem cc__law_row : cSs 200 ⟨n__law_row, defScope (top 10), fun _ => true, f__law_row⟩ (defBody (top 10)) = some c__law_row := by kernel_rfl
theorem sc__law_row : FnScope n__law_row p__law_row (defScope (top 10)) := C8.fnScope_by (by kernel_rfl)
theorem bd__law_row {K : PySem.W.Frag} {x qual : Str} {a : Addr} {fd : FuncData} (F : FunD K x qual (defArgs (top 10)) (defBody (top 10)) (defScope (top 10)) [] [] a fd) : Binds K fd p__law_row [] := FunD.bindsN F fun _ _ _ _ _ _ us hl => match us, hl with | [_, _], _ => rfl
def n__law_thing : List Str := ([(Str.ofString "_law_a"), (Str.ofString "_law_b"), (Str.ofString "_law_some"), (Str.ofString "_law_text"), (Str.ofString "_law_word"), (Str.ofString "_law_at"), (Str.ofString "_law_other"), (Str.ofString "_law_k")] : List Str)
def p__law_thing : List Str := ([(Str.ofString "_law_a"), (Str.ofString "_law_b")] : List Str)
def c__law_thing_5 : CS := (.seq (.ret (.var 3)) .skip)
def c__law_thing_b1 : CS := 
  (.seq (.asg (.var 5) (.idx (.lst (.cons (.bin .Mod (.bin .FloorDiv (.var 1) (.con (.int 2))) (.bc .len (.cons (.var 3) .nil))) (.cons (.con (.int 0)) (.cons (.bin .Sub (.bc .len (.cons (.var 3) .nil)) (.con (.int 1))) (.cons (.con (.int 0)) .nil))))) (.bin .Mod (.bin .FloorDiv (.var 1) (.con (.int 64))) (.con (.int 4))))) 
  (.seq (.asg (.var 6) (.idx (.con (.str [32, 48, 57, 65, 90, 95, 45, 46, 44, 58, 59, 40, 41, 124, 64, 91, 96, 123, 126])) (.bin .Mod (.bin .FloorDiv (.var 1) (.con (.int 256))) (.con (.int 19))))) 
  (.seq (.asg (.var 3) (.bin .Add (.bin .Add (.slc (.var 3) .nil (.cons (.var 5) .nil)) (.var 6)) (.slc (.var 3) (.cons (.bin .Add (.var 5) (.con (.int 1))) .nil) .nil))) .skip)))
def c__law_thing_4 : CS := (.seq (.iff (.and_ (.cmp .Eq (.bin .Mod (.var 1) (.con (.int 2))) (.con (.int 1))) (.cmp .Gt (.bc .len (.cons (.var 3) .nil)) (.con (.int 0)))) c__law_thing_b1 .skip) c__law_thing_5)
def c__law_thing_3 : CS := (.seq (.asg (.var 3) (.bm (.con (.str [])) .join (.cons (.lc [7] (.var 7) (.rng1I (.bin .Mod (.bin .FloorDiv (.var 0) (.con (.int 64))) (.con (.int 12)))) .nil (.idx (.var 2) (.bin .Mod (.bin .Add (.bin .FloorDiv (.var 0) (.con (.int 7))) (.bin .Mult (.bin .Add (.bin .FloorDiv (.var 0) (.con (.int 999))) (.con (.int 1))) (.var 7))) (.con (.int 36))))) .nil))) c__law_thing_4)
def c__law_thing_b2 : CS := 
  (.seq (.ret (.idx (.lst (.cons (.con .non) (.cons (.con (.int 7)) (.cons (.con (.bl true)) (.cons (.tup (.cons (.con (.str [97])) .nil)) (.cons (.lst (.cons (.con (.str [97])) .nil)) (.cons .dic0 (.cons (.con (.int 0)) (.cons (.con (.bl false)) (.cons (.tup .nil) (.cons (.tup (.cons (.con (.str [97])) (.cons (.con (.str [98])) .nil))) .nil))))))))))) (.bin .Mod (.var 1) (.con (.int 10))))) .skip)
def c__law_thing_2 : CS := (.seq (.iff (.and_ (.cmp .Eq (.bin .Mod (.var 0) (.con (.int 5))) (.con (.int 1))) (.cmp .Eq (.bin .Mod (.bin .FloorDiv (.var 0) (.con (.int 5))) (.con (.int 4))) (.con (.int 0)))) c__law_thing_b2 .skip) c__law_thing_3)
def c__law_thing_b3 : CS := 
  (.seq (.asg (.var 4) (.idx (.call (Str.ofString "_law_kept") .nil) (.bin .Mod (.bin .FloorDiv (.var 0) (.con (.int 5))) (.con (.int 21))))) 
  (.seq (.ret (.idx (.lst (.cons (.var 4) (.cons (.var 4) (.cons (.var 4) (.cons (.slc (.var 4) .nil (.cons (.usub (.con (.int 1))) .nil)) (.cons (.bin .Add (.var 4) (.con (.str [115]))) (.cons (.slc (.var 4) (.cons (.con (.int 1)) .nil) .nil) (.cons (.bin .Add (.con (.str [120])) (.var 4)) .nil)))))))) (.bin .Mod (.var 1) (.con (.int 7))))) .skip))
def c__law_thing_1 : CS := (.seq (.iff (.cmp .Eq (.bin .Mod (.var 0) (.con (.int 5))) (.con (.int 0))) c__law_thing_b3 .skip) c__law_thing_2)
def c__law_thing : CS := (.seq (.asg (.var 2) (.con (.str [97, 98, 99, 100, 101, 102, 103, 104, 105, 106, 107, 108, 109, 110, 111, 112, 113, 114, 115, 116, 117, 118, 119, 120, 121, 122, 48, 49, 50, 51, 52, 53, 54, 55, 56, 57]))) c__law_thing_1)
def f__law_thing : List Str := ([(Str.ofString "_law_kept")] : List Str)
theorem cc__law_thing : cSs 200 ⟨n__law_thing, defScope (top 11), fun _ => true, f__law_thing⟩ (defBody (top 11)) = some c__law_thing := by kernel_rfl
theorem sc__law_thing : FnScope n__law_thing p__law_thing (defScope (top 11)) := C8.fnScope_by (by kernel_rfl)
theorem bd__law_thing {K : PySem.W.Frag} {x qual : Str} {a : Addr} {fd : FuncData} (F : FunD K x qual (defArgs (top 11)) (defBody (top 11)) (defScope (top 11)) [] [] a fd) : Binds K fd p__law_thing [] := FunD.bindsN F fun _ _ _ _ _ _ us hl => match us, hl with | [_, _], _ => rfl
def n_law : List Str := ([(Str.ofString "_law_script"), (Str.ofString "_law_row_here"), (Str.ofString "_law_k"), (Str.ofString "_law_thing_here"), (Str.ofString "_law_found")] : List Str)
def p_law : List Str := ([(Str.ofString "_law_script")] : List Str)
def c_law_2 : CS := (.seq (.ret (.con (.bl true))) .skip)
def c_law_b1 : CS := 
  (.seq (.ret (.con (.bl false))) .skip)
def c_law_b2 : CS := 
  (.seq (.asg (.var 3) (.call (Str.ofString "_law_thing") (.cons (.idx (.var 1) (.var 2)) (.cons (.idx (.var 1) (.bin .Add (.var 2) (.con (.int 1)))) .nil)))) 
  (.seq (.asg (.var 4) (.call (Str.ofString "is_name") (.cons (.var 3) .nil))) 
  (.seq (.iff (.or_ (.not_ (.bc .isin (.cons (.var 4) (.cons (.con (.ty "bool")) .nil)))) (.cmp .NotEq (.var 4) (.call (Str.ofString "_law_is_name") (.cons (.var 3) .nil)))) c_law_b1 .skip) .skip)))
def c_law_1 : CS := (.seq (.forr (.var 2) (.rng1I (.bin .Sub (.bc .len (.cons (.var 1) .nil)) (.con (.int 1)))) c_law_b2) c_law_2)
def c_law : CS := (.seq (.asg (.var 1) (.call (Str.ofString "_law_row") (.cons (.var 0) (.cons (.con (.int 4)) .nil)))) c_law_1)
def f_law : List Str := ([(Str.ofString "_law_thing"), (Str.ofString "is_name"), (Str.ofString "_law_is_name"), (Str.ofString "_law_row")] : List Str)
theorem cc_law : cSs 200 ⟨n_law, defScope (top 12), fun _ => true, f_law⟩ (defBody (top 12)) = some c_law := by kernel_rfl
theorem sc_law : FnScope n_law p_law (defScope (top 12)) := C8.fnScope_by (by kernel_rfl)
theorem bd_law {K : PySem.W.Frag} {x qual : Str} {a : Addr} {fd : FuncData} (F : FunD K x qual (defArgs (top 12)) (defBody (top 12)) (defScope (top 12)) [] [] a fd) : Binds K fd p_law [] := FunD.bindsN F fun _ _ _ _ _ _ us hl => match us, hl with | [_], _ => rfl
end CL

namespace CL
open PySem PySem.Spec PyProof.Rows CT
def sx (l : List String) : List (List Nat) := l.map fun s => s.toList.map (·.toNat)
def kept : List (List Nat) := sx ["yes", "no", "not", "and", "or", "is", "shared", "helper", "own", "set", "to", "any", "if", "else", "while", "call", "let", "be", "give", "check", "mark"]
def spKept : DSp := fun ds H Q Y => ds = [] ∧ new H (.lst (kept.map .str)) Q
theorem kept_eq : kept = [[121, 101, 115], [110, 111], [110, 111, 116], [97, 110, 100], [111, 114], [105, 115], [115, 104, 97, 114, 101, 100], [104, 101, 108, 112, 101, 114], [111, 119, 110], [115, 101, 116], [116, 111], [97, 110, 121], [105, 102], [101, 108, 115, 101], [119, 104, 105, 108, 101], [99, 97, 108, 108], [108, 101, 116], [98, 101], [103, 105, 118, 101], [99, 104, 101, 99, 107], [109, 97, 114, 107]] := by decide +kernel
theorem w_kept {G : Gam} (ds : List D) (H : DH) (Q : DQ) (Y : DX) (h : spKept ds H Q Y) : ds.length = p__law_kept.length ∧ wS G c__law_kept (fin Q Y) (startD n__law_kept ds) H := by
  obtain ⟨rfl, h⟩ := h
  refine ⟨rfl, ?_⟩
  have e0 : startD n__law_kept [] = [none] := rfl
  rw [e0]
  simp only [c__law_kept, c__law_kept_1, wS, CT.wE, wA, wG, new, CT.fin]
  refine ⟨by decide, fun p hp => ?_⟩
  simp only [List.set, List.getElem?_cons_zero]
  refine ⟨by decide, fun q hq => ?_⟩
  obtain ⟨z, hq''⟩ := nn hq
  simp only [binO, ud_same, ud_ne (Ne.symm z), new]
  refine ⟨by decide, fun r hr => ?_⟩
  rw [kept_eq] at h
  exact fg_new (((Le.refl H).ud hp).ud hq'') hr h
/-! is_name -/
def low : List Nat := [97, 98, 99, 100, 101, 102, 103, 104, 105, 106, 107, 108, 109, 110, 111, 112, 113, 114, 115, 116, 117, 118, 119, 120, 121, 122]
def figs : List Nat := [48, 49, 50, 51, 52, 53, 54, 55, 56, 57]
def nameB (x : List Nat) : Bool := decide (1 ≤ x.length) && decide (x.length ≤ 8) && (match x with
  | c :: _ => decide (c ∈ low)
  | [] => false) && x.all (fun c => decide (c ∈ low ++ figs)) && !decide (x ∈ kept)
def isn : D → Bool
  | .str x => nameB x
  | _ => false
/-- a thing that may be asked -/
def okT (H : DH) : D → Bool
  | .str x => decide (x.length ≤ 1000)
  | d => (match tyO H d with
    | some (.inl _) => true
    | _ => false)
theorem isin_no {G : Gam} {H : DH} {d : D} (hd : okT H d = true) (hn : ∀ x, d ≠ .str x) : isinO G H d (.ty "str") = some false ∧ isn d = false := by
  cases d with
  | str x => exact absurd rfl (hn x)
  | ref a =>
    simp only [okT, tyO] at hd
    simp only [isinO, tyO]
    refine ⟨?_, rfl⟩
    cases e : H a with
    | none => rw [e] at hd; cases hd
    | some o =>
      rw [e] at hd
      cases o with
      | lst xs => show isaB "list" "str" = some false; decide
      | dic xs => show isaB "dict" "str" = some false; decide
      | ins c fs => cases hd
  | ty n => cases hd
  | kls c => cases hd
  | _ => exact ⟨by simp only [isinO, tyO]; decide, rfl⟩
def spIsName : DSp := fun ds H Q Y => ∃ d, ds = [d] ∧ okT H d = true ∧ Q (.bl (isn d)) H
def Gk (fs : List (Str × DSp)) : Gam := { fn := fun x => fs.lookup x, mt := fun _ _ => none, ini := fun _ => none, xc := fun _ => false, gv := fun x => gs.lookup x, fl := fun _ _ => false, isa := fun _ _ => none, isx := fun _ _ => none }
theorem w_is_name {fs : List (Str × DSp)} (ds : List D) (H : DH) (Q : DQ) (Y : DX) (h : spIsName ds H Q Y) : ds.length = p_is_name.length ∧ wS (Gk fs) c_is_name (fin Q Y) (startD n_is_name ds) H := by
  obtain ⟨d, rfl, hd, h⟩ := h
  refine ⟨rfl, ?_⟩
  have e0 : startD n_is_name [d] = [some d, none] := rfl
  have g1 : (Gk fs).gv (Str.ofString "MOST_SIGNS") = some (.int 8) := by kernel_rfl
  have g2 : (Gk fs).gv (Str.ofString "LETTERS") = some (.str low) := by kernel_rfl
  have g3 : (Gk fs).gv (Str.ofString "SIGNS") = some (.str (low ++ figs)) := by kernel_rfl
  have g4 : (Gk fs).gv (Str.ofString "WORDS") = some (.cl ((kept.take 15).map .str)) := by kernel_rfl
  have g5 : (Gk fs).gv (Str.ofString "MORE_WORDS") = some (.cl ((kept.drop 15).map .str)) := by kernel_rfl
  rw [e0]
  simp only [c_is_name, c_is_name_1, c_is_name_b1, wS, CT.wE, CT.wT, wA, wG, wI, wC, new, CT.fin, biO, List.getElem?_cons_zero, g1, g2, g3, g4, g5, opS, trB]
  cases d with
  | str x =>
    simp only [isin_str, opS, trB, Bool.not_true]
    have hl : x.length ≤ 1000 := by simpa [okT] using hd
    have hz : x.length ≤ sizeLine := Nat.le_trans hl (by decide)
    simp only [lenO, opS, hz, true_and, cmpO]
    cases x with
    | nil => exact fg_le (Le.refl H) h
    | cons c r =>
      have h1 : decide ((1 : Int) ≤ ((c :: r).length : Nat)) = true := by
        rw [decide_eq_true_eq, List.length_cons]
        omega
      simp only [h1, Bool.not_true]
      by_cases h8 : (c :: r).length ≤ 8
      · have e8 : decide (((c :: r).length : Int) ≤ 8) = true := by
          rw [decide_eq_true_eq]
          omega
        simp only [e8, Bool.not_true]
        have a0 : L2.atI (c :: r) 0 = some c := by simp [L2.atI, L2.ixN]
        simp only [idxO, a0, opS, hz, true_and, in_sign, Option.map_some]
        by_cases hc : c ∈ low
        · simp only [hc, decide_true, Bool.not_true]
          simp only [seqO, hz, true_and]
          intro p hp
          refine lc_all (fun c => D.str [c]) (fun c => D.bl (decide (c ∈ low ++ figs))) (c :: r) (fun _ => trivial) (fun c' _ acc N hz' hN => ?_) hz ?_
          · simp only [List.set, wipeD, List.getElem?_cons_succ, List.getElem?_cons_zero, in_sign, opS, ud_same, ud_ud, hz', true_and]
            exact hN
          · simp only [lsAt, ud_same, Option.bind_some, allB_of, opS, in_strs, Option.map_some]
            have key : isn (.str (c :: r)) = ((c :: r).all (fun c => decide (c ∈ low ++ figs)) && (!decide ((c :: r) ∈ kept.take 15) && !decide ((c :: r) ∈ kept.drop 15))) := by
              have e : (c :: r) ∈ kept ↔ (c :: r) ∈ kept.take 15 ∨ (c :: r) ∈ kept.drop 15 := by rw [← List.mem_append, List.take_append_drop]
              have e1 : decide (1 ≤ (c :: r).length) = true := by simp
              simp only [isn, nameB, e1, decide_eq_true h8, decide_eq_true hc, Bool.true_and]
              rw [decide_eq_decide.mpr e, Bool.decide_or, Bool.not_or]
            rw [key] at h
            cases q1 : (c :: r).all (fun c => decide (c ∈ low ++ figs)) with
            | false =>
              rw [q1] at h
              exact fg_le ((Le.refl H).ud hp) h
            | true =>
              rw [q1] at h
              simp only
              cases q2 : decide ((c :: r) ∈ kept.take 15) with
              | true =>
                rw [q2] at h
                exact fg_le ((Le.refl H).ud hp) h
              | false =>
                rw [q2] at h
                exact fg_le ((Le.refl H).ud hp) h
        · simp only [hc, decide_false, Bool.not_false]
          have e : isn (.str (c :: r)) = false := by simp [isn, nameB, hc]
          rw [e] at h
          exact fg_le (Le.refl H) h
      · have e8 : decide (((c :: r).length : Int) ≤ 8) = false := by
          rw [decide_eq_false_iff_not]
          omega
        simp only [e8, Bool.not_false]
        have e : isn (.str (c :: r)) = false := by
          simp only [isn, nameB, decide_eq_false h8, Bool.and_false, Bool.false_and]
        rw [e] at h
        exact fg_le (Le.refl H) h
  | _ =>
    have q := isin_no (G := Gk fs) hd (by intro x; simp)
    rw [q.2] at h
    simp only [q.1, opS, trB, Bool.not_false]
    exact fg_le (Le.refl H) h
/-! the law's own -/
theorem w_isn2 {fs : List (Str × DSp)} (hk : (Gk fs).fn (Str.ofString "_law_kept") = some spKept) (ds : List D) (H : DH) (Q : DQ) (Y : DX) (h : spIsName ds H Q Y) : ds.length = p__law_is_name.length ∧ wS (Gk fs) c__law_is_name (CT.fin Q Y) (startD n__law_is_name ds) H := by
  obtain ⟨d, rfl, hd, h⟩ := h
  refine ⟨rfl, ?_⟩
  have e0 : startD n__law_is_name [d] = [some d, none, none] := rfl
  rw [e0]
  simp only [c__law_is_name, c__law_is_name_1, c__law_is_name_2, c__law_is_name_b1, wS, CT.wE, CT.wT, wA, wG, wI, wC, new, CT.fin, biO, List.set, List.getElem?_cons_zero, List.getElem?_cons_succ, hk, opS, trB]
  cases d with
  | str x =>
    simp only [isin_str, opS, trB, Bool.not_true]
    have hl : x.length ≤ 1000 := by simpa [okT] using hd
    have hz : x.length ≤ sizeLine := Nat.le_trans hl (by decide)
    simp only [lenO, opS, hz, true_and, cmpO]
    cases x with
    | nil => exact fg_le (Le.refl H) h
    | cons c r =>
      have h1 : decide ((1 : Int) ≤ ((c :: r).length : Nat)) = true := by
        rw [decide_eq_true_eq, List.length_cons]
        omega
      simp only [h1, Bool.not_true]
      by_cases h8 : (c :: r).length ≤ 8
      · have e8 : decide (((c :: r).length : Int) ≤ 8) = true := by
          rw [decide_eq_true_eq]
          omega
        simp only [e8, Bool.not_true]
        have a0 : L2.atI (c :: r) 0 = some c := by simp [L2.atI, L2.ixN]
        have elow : (c ∈ [97, 98, 99, 100, 101, 102, 103, 104, 105, 106, 107, 108, 109, 110, 111, 112, 113, 114, 115, 116, 117, 118, 119, 120, 121, 122]) = (c ∈ low) := rfl
        simp only [idxO, a0, opS, hz, true_and, in_sign, Option.map_some, elow]
        by_cases hc : c ∈ low
        · simp only [hc, decide_true, Bool.not_true]
          refine ⟨rfl, fun p hp => ?_⟩
          simp only [in_strsR (ud_same (H := H)), opS]
          have e1 : decide (1 ≤ (c :: r).length) = true := by simp
          have key : isn (.str (c :: r)) = ((c :: r).all (fun c => decide (c ∈ low ++ figs)) && !decide ((c :: r) ∈ kept)) := by
            simp only [isn, nameB, e1, decide_eq_true h8, decide_eq_true hc, Bool.true_and]
          rw [key] at h
          cases q2 : decide ((c :: r) ∈ kept) with
          | true =>
            rw [q2, Bool.not_true, Bool.and_false] at h
            exact fg_le ((Le.refl H).ud hp) h
          | false =>
            rw [q2, Bool.not_false, Bool.and_true] at h
            simp only [seqO, hz, true_and]
            intro q hq
            refine lc_map (fun c => D.str [c]) (fun c => !decide (c ∈ low ++ figs)) (fun c => D.str [c]) (fun _ => trivial) (c :: r) [] (fun c' _ acc N hz' h1 h2 => ?_) (by simpa using hz) ?_
            · have e3 : ([97, 98, 99, 100, 101, 102, 103, 104, 105, 106, 107, 108, 109, 110, 111, 112, 113, 114, 115, 116, 117, 118, 119, 120, 121, 122] ++ [48, 49, 50, 51, 52, 53, 54, 55, 56, 57] : List Nat) = low ++ figs := rfl
              simp only [List.set, wipeD, List.getElem?_cons_succ, List.getElem?_cons_zero, binO, e3, in_sign, Option.map_some, opS, ud_same, ud_ud, hz', true_and]
              refine ⟨by decide, ?_⟩
              cases q3 : decide (c' ∈ low ++ figs) with
              | true => exact h2 (by rw [q3]; rfl)
              | false => exact h1 (by rw [q3]; rfl)
            · refine ⟨by decide, fun r' hr' => ?_⟩
              obtain ⟨z, hr''⟩ := nn hr'
              have em : ∀ l : List Nat, (l.map fun c => D.str [c]) = (l.map fun c => [c]).map D.str := fun l => by rw [List.map_map]; rfl
              rw [List.nil_append, em, eqO_nilR (l := _) (by rw [ud_ne (Ne.symm z), ud_same]) ud_same]
              simp only [opS]
              have e4 : ((List.filter (fun c => !decide (c ∈ low ++ figs)) (c :: r)).map fun c => [c]).isEmpty = (c :: r).all (fun c => decide (c ∈ low ++ figs)) := by
                rw [List.isEmpty_map]
                induction (c :: r) with
                | nil => rfl
                | cons a l ih =>
                  rw [List.all_cons, ← ih]
                  cases q4 : decide (a ∈ low ++ figs) with
                  | true => rw [List.filter_cons_of_neg (by rw [q4]; decide), Bool.true_and]
                  | false => rw [List.filter_cons_of_pos (by rw [q4]; rfl), Bool.false_and]; rfl
              rw [e4]
              refine fg_le ?_ h
              exact ((((Le.refl H).ud hp).ud (nn hq).2)).ud (nn hr'').2
        · simp only [hc, decide_false, Bool.not_false]
          have e : isn (.str (c :: r)) = false := by simp [isn, nameB, hc]
          rw [e] at h
          exact fg_le (Le.refl H) h
      · have e8 : decide (((c :: r).length : Int) ≤ 8) = false := by
          rw [decide_eq_false_iff_not]
          omega
        simp only [e8, Bool.not_false]
        have e : isn (.str (c :: r)) = false := by
          simp only [isn, nameB, decide_eq_false h8, Bool.and_false, Bool.false_and]
        rw [e] at h
        exact fg_le (Le.refl H) h
  | _ =>
    have q := isin_no (G := Gk fs) hd (by intro x; simp)
    rw [q.2] at h
    simp only [q.1, opS, trB, Bool.not_false]
    exact fg_le (Le.refl H) h
end CL

namespace CL
open PySem PySem.Spec PyProof.Rows CT
def spRow : DSp := fun ds H Q Y => ∃ (d : D) (ns : List Int) (m : Int), ds = [d, .int m] ∧ lsAt H d = some (ns.map D.int) ∧ ns.length ≤ 64 ∧ 0 ≤ m ∧ m ≤ 1000 ∧ ∀ l : List Int, (l.length : Int) = ns.length + m → (∀ x ∈ l, 0 ≤ x ∧ x < 2147483629) → new H (.lst (l.map D.int)) Q
theorem w_row {G : Gam} (ds : List D) (H : DH) (Q : DQ) (Y : DX) (h : spRow ds H Q Y) : ds.length = p__law_row.length ∧ wS G c__law_row (CT.fin Q Y) (startD n__law_row ds) H := by
  obtain ⟨d, ns, m, rfl, hd, hn, hm, hm2, h⟩ := h
  refine ⟨rfl, ?_⟩
  have e0 : startD n__law_row [d, .int m] = [some d, some (.int m), none, none, none, none] := rfl
  rw [e0]
  simp only [c__law_row, c__law_row_1, c__law_row_2, c__law_row_3, c__law_row_b1, c__law_row_b2, wS, CT.wE, CT.wT, wA, wG, wI, wC, new, CT.fin, biO, bmO, bmT, List.set, List.getElem?_cons_zero, List.getElem?_cons_succ, opS, trB]
  refine ⟨by decide, fun p hp => ?_⟩
  have hd1 : lsAt (ud H p (.lst [])) d = some (ns.map D.int) := lsAt_le ((Le.refl H).ud hp) hd
  simp only [len_ls hd1, opS, List.length_map, binO, rng1O]
  refine ⟨by exact Nat.le_trans hn (by decide), ?_⟩
  have emx : (if (ns.length : Int) + m > m then (ns.length : Int) + m else m) = ns.length + m := by
    split <;> omega
  rw [emx]
  refine ⟨by omega, ?_⟩
  refine for_inv (fun i δ H' => ∃ (l : List Int) (more : Int) (k c : Option D), δ = [some d, some (.int m), some (.ref p), some (.int more), k, c] ∧ H' = ud H p (.lst (l.map D.int)) ∧ l.length = i ∧ 0 ≤ more ∧ more < 2147483647 ∧ ∀ x ∈ l, 0 ≤ x ∧ x < 2147483629) ?_ ?_ ⟨[], 7, none, none, rfl, rfl, rfl, by decide, by decide, by simp⟩
  · rintro i e he δ H' ⟨l, more, k, c, rfl, rfl, rfl, hm0, hm1, hl⟩ N hN
    obtain ⟨j, hj, rfl⟩ := rngL_mem (List.mem_of_getElem? he)
    have hd2 : lsAt (ud H p (.lst (l.map D.int))) d = some (ns.map D.int) := lsAt_le ((Le.refl H).ud hp) hd
    refine ⟨trivial, ?_⟩
    have hlen := (List.getElem?_eq_some_iff.mp he).1
    rw [rngL_len] at hlen
    have fin : ∀ cell : Int, N [some d, some (.int m), some (.ref p), some (.int ((more * 48271 + cell + (0 + (j : Int))) % 2147483647)), some (.int (0 + (j : Int))), some (.int cell)]
        (ud H p (.lst ((l ++ [((more * 48271 + cell + (0 + (j : Int))) % 2147483647 * ((more * 48271 + cell + (0 + (j : Int))) % 2147483647) + 16807 * ((more * 48271 + cell + (0 + (j : Int))) % 2147483647)) % 2147483629]).map D.int))) := fun cell =>
      hN _ _ ⟨_, _, _, _, rfl, rfl, by simp, Int.emod_nonneg _ (by decide), Int.emod_lt_of_pos _ (by decide), fun x hx => by
        rcases List.mem_append.mp hx with hx | hx
        · exact hl x hx
        · rw [List.mem_singleton] at hx
          subst hx
          exact ⟨Int.emod_nonneg _ (by decide), Int.emod_lt_of_pos _ (by decide)⟩⟩
    have hll : l.length < sizeLine := Nat.lt_of_lt_of_le (show l.length < 2000 by omega) (by decide)
    have hmu : ∀ z : Int, -2 ^ 64 < z % 2147483647 ∧ z % 2147483647 < 2 ^ 64 := fun z => by
      have h1 := Int.emod_nonneg z (show (2147483647 : Int) ≠ 0 by decide)
      have h2 := Int.emod_lt_of_pos z (show (0 : Int) < 2147483647 by decide)
      constructor <;> omega
    have hL : isL (ud H p (.lst (l.map D.int))) (.ref p) = true := by simp only [isL, ud_same]
    simp only [List.set, List.getElem?_cons_zero, List.getElem?_cons_succ, len_ls hd2, opS, List.length_map, cmpO]
    refine ⟨Nat.le_trans hn (by decide), ?_⟩
    cases q : decide ((0 : Int) < (ns.length : Int)) with
    | true =>
      have q := of_decide_eq_true q
      obtain ⟨v, _, ev, _⟩ := atI_map (f := D.int) (xs := ns) (i := (0 + (j : Int)) % (ns.length : Int)) (Int.emod_nonneg _ (by omega)) (Int.emod_lt_of_pos _ q)
      refine ⟨Nat.le_trans hn (by decide), q, ?_⟩
      rw [idx_ls hd2, ev]
      simp only [opS, hL, ud_same, ud_ud, List.length_map, hll, true_and]
      refine ⟨.inr (by decide), by decide, .inl (hmu _), .inl (by decide), by decide, ?_⟩
      have := fin v
      rw [List.map_append] at this
      exact this
    | false =>
      simp only [opS, hL, ud_same, ud_ud, List.length_map, hll, true_and]
      refine ⟨.inr (by decide), by decide, .inl (hmu _), .inl (by decide), by decide, ?_⟩
      have := fin 0
      rw [List.map_append] at this
      exact this
  · rintro δ H' ⟨l, more, k, c, rfl, rfl, hl, _, _, hb⟩
    rw [rngL_len] at hl
    refine ⟨trivial, ?_⟩
    simp only [List.getElem?_cons_zero, List.getElem?_cons_succ]
    exact ⟨_, Le.refl _, h l (by omega) hb p hp⟩
def spThing : DSp := fun ds H Q Y => ∃ a b : Int, ds = [.int a, .int b] ∧ 0 ≤ a ∧ a < 2147483648 ∧ 0 ≤ b ∧ b < 2147483648 ∧ ∀ d H', Le H H' → okT H' d = true → Q d H'
theorem kept_len : ∀ x ∈ kept, x.length ≤ 10 := by decide +kernel
theorem okT_up {H H' : DH} {d : D} (l : Le H H') (h : okT H d = true) : okT H' d = true := by
  cases d with
  | ref p =>
    simp only [okT, tyO] at h ⊢
    cases e : H p with
    | none => rw [e] at h; cases h
    | some o =>
      rw [l _ _ e]
      rw [e] at h
      exact h
  | str x => exact h
  | _ => exact h
section
variable {fs : List (Str × DSp)} {a b : Int} {H : DH} {Q : DQ} {Y : DX}
theorem w_thing5 {x : List Nat} {d4 d5 d6 d7 : Option D} (hx : x.length ≤ 1000) (h : ∀ d H', Le H H' → okT H' d = true → Q d H') {H1 : DH} (l : Le H H1) : wS (Gk fs) c__law_thing_5 (CT.fin Q Y) [some (.int a), some (.int b), some (.str (low ++ figs)), some (.str x), d4, d5, d6, d7] H1 := by
  simp only [c__law_thing_5, wS, CT.wE, CT.fin, List.getElem?_cons_zero, List.getElem?_cons_succ]
  exact fg_le (Le.refl H1) (h _ H1 l (by simp [okT, hx]))
theorem w_thing4 {x : List Nat} {d4 d5 d6 d7 : Option D} (hb : 0 ≤ b) (hx : x.length ≤ 100) (h : ∀ d H', Le H H' → okT H' d = true → Q d H') {H1 : DH} (l : Le H H1) : wS (Gk fs) c__law_thing_4 (CT.fin Q Y) [some (.int a), some (.int b), some (.str (low ++ figs)), some (.str x), d4, d5, d6, d7] H1 := by
  simp only [c__law_thing_4, wS, CT.wE, CT.wT, wA, biO, List.getElem?_cons_zero, List.getElem?_cons_succ, opS, bin_mod, cmp_eq, cmp_gt, eqO_int, lenO_str, Int.reduceLT, true_and]
  have hz : x.length ≤ sizeLine := Nat.le_trans hx (by decide)
  have stop := fun d4 d5 d6 d7 => w_thing5 (fs := fs) (a := a) (b := b) (Y := Y) (x := x) (d4 := d4) (d5 := d5) (d6 := d6) (d7 := d7) (by omega) h l
  cases b % 2 == 1 with
  | false => exact stop _ _ _ _
  | true =>
    refine ⟨hz, ?_⟩
    cases e : decide ((0 : Int) < (x.length : Nat)) with
    | false => exact stop _ _ _ _
    | true =>
      have e := of_decide_eq_true e
      simp only [c__law_thing_b1, wS, CT.wE, CT.wT, wA, wG, wP, biO, List.set, List.getElem?_cons_zero, List.getElem?_cons_succ, opS, bin_mod, bin_div, bin_sub, bin_addI, bin_addS, cmp_eq, cmp_gt, eqO_int, lenO_str, Int.reduceLT, true_and, and_true, slc_str, part_int, hz]
      have hm := Int.emod_nonneg (b / 2) (show (x.length : Int) ≠ 0 by omega)
      refine ⟨e, (by simp only [List.length_cons, List.length_nil]; decide), fun p hp => ?_⟩
      dsimp only
      rw [idx_lst ud_same]
      obtain ⟨v, hv, ev, _⟩ := atI_in (xs := [D.int (b / 2 % (x.length : Int)), D.int 0, D.int ((x.length : Int) - 1), D.int 0]) (i := b / 64 % 4) (Int.emod_nonneg _ (by decide)) (Int.emod_lt_of_pos _ (by decide))
      rw [ev]
      simp only [opS]
      have iv : ∃ k : Int, v = .int k := by
        simp only [List.mem_cons, List.not_mem_nil, or_false] at hv
        rcases hv with rfl | rfl | rfl | rfl <;> exact ⟨_, rfl⟩
      obtain ⟨k, rfl⟩ := iv
      rw [idx_str]
      refine ⟨by decide, ?_⟩
      obtain ⟨c, hc, ec, _⟩ := atI_in (xs := ([32, 48, 57, 65, 90, 95, 45, 46, 44, 58, 59, 40, 41, 124, 64, 91, 96, 123, 126] : List Nat)) (i := b / 256 % 19) (Int.emod_nonneg _ (by decide)) (Int.emod_lt_of_pos _ (by decide))
      rw [ec]
      have c1 := cut_len x none (some k)
      have c2 := cut_len x (some (k + 1)) none
      simp only [opS, part_int, bin_addI, bin_addS, slc_str, hz, true_and, List.length_append, List.length_cons, List.length_nil]
      refine ⟨Nat.le_trans (show _ ≤ 1000 by omega) (by decide), Nat.le_trans (show _ ≤ 1000 by omega) (by decide), ?_⟩
      exact w_thing5 (by simp only [List.length_append, List.length_cons, List.length_nil]; omega) h (l.trans ((Le.refl H1).ud hp))
theorem w_thing3 {d3 d4 d5 d6 d7 : Option D} (ha : 0 ≤ a) (ha2 : a < 2147483648) (hb : 0 ≤ b) (h : ∀ d H', Le H H' → okT H' d = true → Q d H') {H1 : DH} (l : Le H H1) : wS (Gk fs) c__law_thing_3 (CT.fin Q Y) [some (.int a), some (.int b), some (.str (low ++ figs)), d3, d4, d5, d6, d7] H1 := by
  have m0 := Int.emod_nonneg (a / 64) (show (12 : Int) ≠ 0 by decide)
  have m1 := Int.emod_lt_of_pos (a / 64) (show (0 : Int) < 12 by decide)
  simp only [c__law_thing_3, wS, CT.wE, CT.wT, wA, wG, wI, wC, wP, CT.fin, List.set, List.getElem?_cons_zero, List.getElem?_cons_succ, opS, bin_mod, bin_div, bm_join, bt_join, rng1_int, Int.reduceLT, true_and, and_true]
  refine ⟨⟨by omega, by omega⟩, fun p hp => ?_⟩
  rw [rngL_map]
  have ha999 : 0 ≤ a / 999 := Int.ediv_nonneg ha (by decide)
  have hb999 : a / 999 < 2 ^ 62 := by omega
  refine lc_all _ (fun i => D.str [(low ++ figs).getD ((a / 7 + (a / 999 + 1) * (0 + (i : Nat))) % 36).toNat 0]) _ (fun _ => trivial) (fun i hi acc N hz' hN => ?_) ?_ ?_
  · simp only [List.set, wipeD, List.getElem?_cons_succ, List.getElem?_cons_zero, bin_div, bin_addI, bin_mul, bin_mod, Int.reduceLT, true_and, and_true, idx_str]
    obtain ⟨c, hc, ec, ed⟩ := atI_in (xs := low ++ figs) (i := (a / 7 + (a / 999 + 1) * (0 + (i : Nat))) % 36) (Int.emod_nonneg _ (by decide)) (Int.emod_lt_of_pos _ (by decide))
    refine ⟨.inl (by constructor <;> omega), by decide, ?_⟩
    rw [ec]
    simp only [opS, ud_same, ud_ud, hz', true_and]
    rw [List.getD_eq_getElem?_getD, ed] at hN
    exact hN
  · rw [List.length_range']
    exact Nat.le_trans (show _ ≤ 1000 by omega) (by decide)
  · rw [sqAt_ls ud_same]
    simp only [Option.bind_some, strsD_of, opS]
    generalize hys : (List.map (fun i : Nat => [(low ++ figs).getD ((a / 7 + (a / 999 + 1) * (0 + (i : Int))) % 36).toNat 0]) (List.range' 0 (a / 64 % 12).toNat)) = ys
    have sum : (ys.map (·.length)).sum ≤ 12 := by
      rw [← hys, List.map_map]
      have : ∀ l : List Nat, (l.map ((fun x : List Nat => x.length) ∘ fun i : Nat => [(low ++ figs).getD ((a / 7 + (a / 999 + 1) * (0 + (i : Int))) % 36).toNat 0])).sum = l.length := fun l => by
        induction l with
        | nil => rfl
        | cons c l ih => simp only [List.map_cons, List.sum_cons, ih, List.length_cons, Function.comp, List.length_nil]; omega
      rw [this, List.length_range']
      omega
    have jl := joinL_len [] ys
    simp only [List.length_nil, Nat.mul_zero, Nat.add_zero] at jl ⊢
    refine ⟨by omega, w_thing4 hb (by omega) h (l.trans ((Le.refl H1).ud hp))⟩
theorem okT_list {p : Addr} {H : DH} {xs : List D} (h : H p = some (.lst xs)) : okT H (.ref p) = true := by simp only [okT, tyO, h]
theorem okT_dict {p : Addr} {H : DH} {xs : List (D × D)} (h : H p = some (.dic xs)) : okT H (.ref p) = true := by simp only [okT, tyO, h]
theorem w_thing (hk : (Gk fs).fn (Str.ofString "_law_kept") = some spKept) (ds : List D) (H : DH) (Q : DQ) (Y : DX) (h : spThing ds H Q Y) : ds.length = p__law_thing.length ∧ wS (Gk fs) c__law_thing (CT.fin Q Y) (startD n__law_thing ds) H := by
  obtain ⟨a, b, rfl, ha, ha2, hb, hb2, h⟩ := h
  refine ⟨rfl, ?_⟩
  have e0 : startD n__law_thing [.int a, .int b] = [some (.int a), some (.int b), none, none, none, none, none, none] := rfl
  rw [e0]
  have tail := fun d3 d4 d5 d6 d7 => w_thing3 (fs := fs) (Y := Y) (d3 := d3) (d4 := d4) (d5 := d5) (d6 := d6) (d7 := d7) ha ha2 hb h (Le.refl H)
  have done : ∀ d H', Le H H' → okT H' d = true → fg Q d H' := fun d H' l o => fg_le (Le.refl H') (h d H' l o)
  simp only [c__law_thing, c__law_thing_1, wS, CT.wE, CT.wT, wA, wG, List.set, List.getElem?_cons_zero, List.getElem?_cons_succ, opS, bin_mod, bin_div, cmp_eq, eqO_int, Int.reduceLT, true_and, and_true]
  cases a % 5 == 0 with
  | true =>
    simp only [c__law_thing_b3, wS, CT.wE, CT.wT, wA, wG, wP, CT.fin, List.set, List.getElem?_cons_zero, List.getElem?_cons_succ, opS, bin_mod, bin_div, hk, Int.reduceLT, true_and, and_true, part_int]
    refine ⟨rfl, fun p hp => ?_⟩
    obtain ⟨w, hw, ew, _⟩ := atI_map (f := D.str) (xs := kept) (i := a / 5 % 21) (Int.emod_nonneg _ (by decide)) (Int.emod_lt_of_pos _ (by decide))
    have hl := kept_len w hw
    have c1 := cut_len w none (some (-1))
    have c2 := cut_len w (some 1) none
    have sl : ∀ n : Nat, n ≤ 100 → n ≤ sizeLine := fun n h => Nat.le_trans h (by decide)
    rw [idx_lst ud_same, ew]
    simp only [opS, slc_str, bin_addS, new, List.length_append, List.length_cons, List.length_nil]
    refine ⟨sl _ (by omega), sl _ (by omega), sl _ (by omega), sl _ (by omega), sl _ (by omega), fun q hq => ?_⟩
    obtain ⟨z, hq2⟩ := nn hq
    rw [idx_lst ud_same]
    obtain ⟨v, hv, ev, _⟩ := atI_in (xs := [D.str w, D.str w, D.str w, D.str (cut w none (some (-1))), D.str (w ++ [115]), D.str (cut w (some 1) none), D.str ([120] ++ w)]) (i := b % 7) (Int.emod_nonneg _ (by decide)) (Int.emod_lt_of_pos _ (by decide))
    rw [ev]
    refine done _ _ (((Le.refl H).ud hp).ud hq2) ?_
    simp only [List.mem_cons, List.not_mem_nil, or_false] at hv
    rcases hv with rfl | rfl | rfl | rfl | rfl | rfl | rfl <;> simp only [okT, decide_eq_true_eq, List.length_append, List.length_cons, List.length_nil] <;> omega
  | false =>
    simp only [c__law_thing_2, wS, CT.wE, CT.wT, wA, wG, List.set, List.getElem?_cons_zero, List.getElem?_cons_succ, opS, bin_mod, bin_div, cmp_eq, eqO_int, Int.reduceLT, true_and, and_true]
    cases a % 5 == 1 with
    | false => exact tail _ _ _ _ _
    | true =>
      cases a / 5 % 4 == 0 with
      | false => exact tail _ _ _ _ _
      | true =>
        have sl : ∀ n : Nat, n ≤ 100 → n ≤ sizeLine := fun n h => Nat.le_trans h (by decide)
        simp only [c__law_thing_b2, wS, CT.wE, CT.wT, wA, wG, wP, CT.fin, List.set, List.getElem?_cons_zero, List.getElem?_cons_succ, opS, bin_mod, bin_div, Int.reduceLT, true_and, and_true, new, List.length_cons, List.length_nil]
        refine ⟨sl _ (by omega), sl _ (by omega), fun p hp q hq => ⟨sl _ (by omega), sl _ (by omega), sl _ (by omega), fun r hr => ?_⟩⟩
        obtain ⟨z1, hq2⟩ := nn hq
        obtain ⟨z2, hr2⟩ := nn hr
        obtain ⟨z3, hr3⟩ := nn hr2
        rw [idx_lst ud_same]
        obtain ⟨v, hv, ev, _⟩ := atI_in (xs := [D.non, D.int 7, D.bl true, D.tup [D.str [97]], .ref p, .ref q, D.int 0, D.bl false, D.tup [], D.tup [D.str [97], D.str [98]]]) (i := b % 10) (Int.emod_nonneg _ (by decide)) (Int.emod_lt_of_pos _ (by decide))
        rw [ev]
        refine done _ _ ((((Le.refl H).ud hp).ud hq2).ud hr3) ?_
        simp only [List.mem_cons, List.not_mem_nil, or_false] at hv
        rcases hv with rfl | rfl | rfl | rfl | rfl | rfl | rfl | rfl | rfl | rfl
        any_goals rfl
        · exact okT_list (xs := [D.str [97]]) (by rw [ud_ne (Ne.symm z3), ud_ne (Ne.symm z1), ud_same])
        · exact okT_dict (xs := []) (by rw [ud_ne (Ne.symm z2), ud_same])
end
def spLaw : DSp := fun ds H Q Y => ∃ ns : List Int, ds = [.cl (ns.map D.int)] ∧ ns.length ≤ 63 ∧ ∀ H', Le H H' → Q (.bl true) H'
section
variable {fs : List (Str × DSp)}
theorem isin_bl {G : Gam} {H : DH} {x : Bool} : isinO G H (.bl x) (.ty "bool") = some true := by
  simp only [isinO, tyO]
  decide
theorem w_law (h1 : (Gk fs).fn (Str.ofString "_law_row") = some spRow) (h2 : (Gk fs).fn (Str.ofString "_law_thing") = some spThing) (h3 : (Gk fs).fn (Str.ofString "is_name") = some spIsName) (h4 : (Gk fs).fn (Str.ofString "_law_is_name") = some spIsName)
    (ds : List D) (H : DH) (Q : DQ) (Y : DX) (h : spLaw ds H Q Y) : ds.length = p_law.length ∧ wS (Gk fs) c_law (CT.fin Q Y) (startD n_law ds) H := by
  obtain ⟨ns, rfl, hn, h⟩ := h
  refine ⟨rfl, ?_⟩
  have e0 : startD n_law [.cl (ns.map D.int)] = [some (.cl (ns.map D.int)), none, none, none, none] := rfl
  rw [e0]
  simp only [c_law, c_law_1, c_law_2, wS, CT.wE, CT.wT, wA, wG, wI, CT.fin, biO, List.set, List.getElem?_cons_zero, List.getElem?_cons_succ, opS, h1]
  refine ⟨_, ns, 4, rfl, rfl, by omega, by decide, by decide, fun l hl hb p hp => ?_⟩
  have hlen : l.length < 1000 := by omega
  simp only [lenO, ud_same, opS, List.length_map, bin_sub, rng1_int]
  refine ⟨Nat.le_trans (show _ ≤ 1000 by omega) (by decide), ⟨by omega, by omega⟩, ?_⟩
  refine for_inv (fun i δ H' => ∃ d2 d3 d4, δ = [some (.cl (ns.map D.int)), some (.ref p), d2, d3, d4] ∧ Le (ud H p (.lst (l.map D.int))) H') ?_ ?_ ⟨_, _, _, rfl, Le.refl _⟩
  · rintro i e he δ H' ⟨d2, d3, d4, rfl, le⟩ N hN
    obtain ⟨j, hj, rfl⟩ := rngL_mem (List.mem_of_getElem? he)
    refine ⟨trivial, ?_⟩
    have hp' : H' p = some (.lst (l.map D.int)) := le _ _ ud_same
    obtain ⟨x, mx, ex, _⟩ := atI_map (f := D.int) (xs := l) (i := 0 + (j : Int)) (by omega) (by omega)
    obtain ⟨y, my, ey, _⟩ := atI_map (f := D.int) (xs := l) (i := 0 + (j : Int) + 1) (by omega) (by omega)
    simp only [c_law_b1, c_law_b2, wS, CT.wE, CT.wT, wA, wG, biO, List.set, List.getElem?_cons_zero, List.getElem?_cons_succ, opS, idx_lst hp', bin_addI, ex, ey, h2, h3, h4, cmp_ne]
    have bx := hb x mx
    have by' := hb y my
    refine ⟨x, y, rfl, by omega, by omega, by omega, by omega, fun d H2 l2 ok => ?_⟩
    refine ⟨d, rfl, ok, ?_⟩
    simp only [isin_bl, opS, trB, Bool.not_true]
    refine ⟨d, rfl, ok, ?_⟩
    simp only [eqO_bl, Option.map_some, opS]
    have e1 : (!(isn d == isn d)) = false := by simp
    rw [e1]
    exact hN _ _ ⟨_, _, _, rfl, le.trans l2⟩
  · rintro δ H' ⟨d2, d3, d4, rfl, le⟩
    exact ⟨trivial, fg_le (Le.refl H') (h H' (((Le.refl H).ud hp).trans le))⟩
end
end CL

namespace CL
open PySem PySem.Spec PyProof.Rows L2 CT
section
variable {P : Program} {w : World} {K : PySem.W.Frag} {mg : Str → Option Value} {base h : Heap}
theorem gk_fn {fs : List (Str × DSp)} {k : Nat} (hf : ∀ p ∈ fs, Fn P w K mg base k p.1 p.2) : ∀ f sp, (Gk fs).fn f = some sp → Fn P w K mg base k f sp := fun f sp e => hf (f, sp) (look_mem e)
theorem ge_k (X : K.In h) (N : h.Ns mainGlobals mg) (c : SaysC gs fa fn K) {fs : List (Str × DSp)} {k : Nat} (hf : ∀ p ∈ fs, Fn P w K mg base k p.1 p.2) : GE P w K mg base k (Gk fs) :=
  ge_of X N c (by kernel_rfl) rfl (fun Y _ => isin_none (fun _ _ => rfl) Y) (gk_fn hf)
theorem fsome {l : List Str} {G : Gam} (h : (l.all fun x => (G.fn x).isSome) = true) : ∀ x, l.contains x = true → (G.fn x).isSome = true := fun x e => List.all_eq_true.mp h x (by simpa using e)
theorem all1 {α : Type} {Q : α → Prop} {a : α} (h : Q a) : ∀ p ∈ [a], Q p := fun p hp => by rw [List.mem_singleton] at hp; subst hp; exact h
theorem facts (X : K.In h) (N : h.Ns mainGlobals mg) (c : SaysC gs fa fn K) {f : Addr} (hfa : mg ("law" : Str) = some (.ref f)) :
    ∃ fd : FuncData, (∀ (s : Shared) (v : Value), BindsTo s fd ⟨[v], []⟩ [("_law_script", v)]) ∧ ∀ base : Heap, FnOk P w K mg base CX0 3 f fd ["_law_script"] (spV K spLaw) := by
  have glo : ∀ (i : Nat) (x : Str), fa[i]? = some (.glo x) → mg x = some (.ref (He.ga K x)) := fun i x e => He.glo_ok X N (He.SaysD.fact c.says.1 i e)
  obtain ⟨fd, F⟩ := He.SaysD.def_ c.says.1 5 rfl
  have e := hfa.symm.trans (glo 24 _ rfl)
  cases e
  have b := FunD.bindsA (ps := p_law) F fun _ _ _ _ _ _ us hl => match us, hl with | [_], _ => rfl
  refine ⟨fd, fun s v => b s [v] rfl, fun base => ?_⟩
  have z0 : GE P w K mg base 0 (Gk []) := ge_k X N c (by intro p hp; cases hp)
  have q_kept : Fn P w K mg base 1 "_law_kept" spKept := by
    obtain ⟨fd, F⟩ := He.SaysD.def_ c.says.1 1 rfl
    exact ⟨_, fd, _, glo 20 _ rfl, F.kp, fnok_of F sc__law_kept cc__law_kept z0 (fsome rfl) w_kept, bd__law_kept F⟩
  have q_isn : Fn P w K mg base 1 "is_name" spIsName := by
    obtain ⟨fd, F⟩ := He.SaysD.def_ c.says.1 0 rfl
    exact ⟨_, fd, _, glo 19 _ rfl, F.kp, fnok_of F sc_is_name cc_is_name z0 (fsome rfl) w_is_name, bd_is_name F⟩
  have q_row : Fn P w K mg base 1 "_law_row" spRow := by
    obtain ⟨fd, F⟩ := He.SaysD.def_ c.says.1 3 rfl
    exact ⟨_, fd, _, glo 22 _ rfl, F.kp, fnok_of F sc__law_row cc__law_row z0 (fsome rfl) w_row, bd__law_row F⟩
  have z1 : GE P w K mg base 1 (Gk [("_law_kept", spKept)]) := ge_k X N c (all1 q_kept)
  have q_isn2 : Fn P w K mg base 2 "_law_is_name" spIsName := by
    obtain ⟨fd, F⟩ := He.SaysD.def_ c.says.1 2 rfl
    exact ⟨_, fd, _, glo 21 _ rfl, F.kp, fnok_of F sc__law_is_name cc__law_is_name z1 (fsome rfl) (w_isn2 rfl), bd__law_is_name F⟩
  have q_thing : Fn P w K mg base 2 "_law_thing" spThing := by
    obtain ⟨fd, F⟩ := He.SaysD.def_ c.says.1 4 rfl
    exact ⟨_, fd, _, glo 23 _ rfl, F.kp, fnok_of F sc__law_thing cc__law_thing z1 (fsome rfl) (w_thing rfl), bd__law_thing F⟩
  have z2 : GE P w K mg base 2 (Gk [("_law_row", spRow), ("_law_thing", spThing), ("is_name", spIsName), ("_law_is_name", spIsName)]) := ge_k X N c (by
    intro p hp
    simp only [List.mem_cons, List.not_mem_nil, or_false] at hp
    rcases hp with rfl | rfl | rfl | rfl
    · exact q_row.mono (by decide)
    · exact q_thing
    · exact q_isn.mono (by decide)
    · exact q_isn2)
  refine fnok_cx0 (sp := spV K spLaw) (fnok_of F sc_law cc_law z2 (fsome rfl) (w_law rfl rfl rfl rfl)) fun vs H Q E q => ?_
  obtain ⟨ds, Hd, R, Y, h1, h2, h3, h4, h5⟩ := q
  exact ⟨ds, Hd, R, noX, h1, h2, h3, h4, fun _ _ _ _ _ _ z => z.elim⟩
end
end CL
open PySem PySem.W PySem.Calls PyProof.Rows
theorem PySem.Challenge.cw_calltower_k01_names_holds : PySem.Challenge.rw_calltower_k01_names.Holds := by
  w_on; o_law
  refine HandSHeadRun.head_any (r := OpenLaw.row PySem.Challenge.rw_calltower_k01_names) (q := view (OpenLaw.row PySem.Challenge.rw_calltower_k01_names).prog [12]) (H := CL.hk) (ob := CL.ob) (M := 20000) (loose := CL.loose) (d := HandSHeadRun.topDef (OpenLaw.row PySem.Challenge.rw_calltower_k01_names).prog 12) (kwd := []) CL.ob_eq
    (by kernel_rfl) (fun s => by kernel_rfl) CL.run (by kernel_rfl) (by kernel_rfl) (by kernel_rfl) (by rfl) (by first | assumption | decide +kernel) (by decide +kernel) ⟨rfl, rfl, rfl, rfl, rfl, by decide +kernel⟩ ?hw ?hc
  case hw => w_witness2
  case hc =>
    refine L2.walk_ofE (l := PySem.Challenge.rw_calltower_k01_names) (n := 63) (k := 3) (x := "_law_script") (CX := L2.CX0) rfl (by decide) (by kernel_rfl) ⟨rfl, by decide, by decide⟩ ?F (fun _ _ _ _ z => z)
    intro w mg fa h Y G hmg0
    obtain ⟨K, KX, c⟩ := Y
    have hmg : mg ("law" : PySem.Str) = some (.ref fa) := by
      have e : (HandSHeadRun.topDef (OpenLaw.row PySem.Challenge.rw_calltower_k01_names).prog 12).name = ("law" : PySem.Str) := by kernel_rfl
      rw [← e]
      exact hmg0
    obtain ⟨fd, hb, key⟩ := CL.facts (P := (PySem.Challenge.rw_calltower_k01_names).prog) (w := w) KX G c hmg
    exact ⟨K, fd, CT.spV K CL.spLaw, KX, hb, fun H a ns hl hO hS => CT.law_sp hO hS ⟨ns, rfl, hl, fun _ _ => rfl⟩, fun base _ _ => key base⟩

