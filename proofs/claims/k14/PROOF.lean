import PyProof.Rows.All
import Wide.All
import OpenK.AllK
import Wide.FinOn
import HandS.ForMost
import HandS.Exc
import HandS.ExcOwn
import HandS.TryOnly
import HandS.WordsExc
import HandS.Codes
import HandS.Lambda
import HandS.EndTab
import HandS.EndOwn
import HandS.AnyAll
import HandS.IsInst
import HandS.Flow
import HandS.FStr
import HandS.WordsDict
import HandS.NoneIn
import HandS.More
import HandS.Iter
import HandS.DictComp
import HandS.GenList
import PyProof.SumAny
import HandS.Star
import PyProof.Rows.StrJoinStr
import PyProof.CollectStr
import HandS.Replace
import HandS.ReplaceLit
import PySem.Challenge.RW_staged_k14_whole_texts_refused
import HandS.ExcIs
import HandS.HeadHook3
set_option Elab.async false
set_option linter.all false
set_option autoImplicit false
set_option maxRecDepth 100000
set_option maxHeartbeats 4000000

/-! A shallow evaluator over the hand layer: data, the store, answers, what they say. -/
namespace Kv
open PySem PySem.Spec PyProof.Rows L2

/-- data: tuples by value, objects that change by their number -/
inductive D where
  | non | bl (b : Bool) | int (i : Int) | str (s : List Nat) | tup (ds : List D) | ob (i : Nat) | kl (ds : List D)
/-- an object that changes: a list, a Reading (its fields by number), a dict of text keys -/
inductive MO where
  | lst (ds : List D) | ins (fs : List (Nat × D)) | dk (kvs : List (List Nat × D))
abbrev Sto := List MO
inductive Ans (a : Type) where
  | ok (x : a) (S : Sto) | exc (c : Nat) (S : Sto) | bad
def Ans.bind {a b : Type} (x : Ans a) (k : a → Sto → Ans b) : Ans b := match x with
  | .ok d S => k d S
  | .exc c S => .exc c S
  | .bad => .bad
def nth {a : Type} : List a → Nat → Option a
  | [], _ => none
  | x :: _, 0 => some x
  | _ :: r, n + 1 => nth r n
def setN {a : Type} : List a → Nat → a → List a
  | [], _, _ => []
  | _ :: r, 0, y => y :: r
  | x :: r, n + 1, y => x :: setN r n y
theorem nth_eq {a : Type} : ∀ (l : List a) (n : Nat), nth l n = l[n]?
  | [], _ => by simp [nth]
  | _ :: _, 0 => rfl
  | _ :: r, n + 1 => by simpa [nth] using nth_eq r n
theorem setN_eq {a : Type} : ∀ (l : List a) (n : Nat) (y : a), setN l n y = l.set n y
  | [], _, _ => by simp [setN]
  | _ :: _, 0, _ => rfl
  | x :: r, n + 1, y => by simp [setN, setN_eq r n y]

def StatL (K : PySem.W.Frag) (a : Addr) (xs : List V) : Prop :=
  ∃ (o : Obj) (its : Array Value) (n : Nat), K.lookup a = some o ∧ o.cls = .type "list" ∧ o.dict = none ∧ o.data = .seq its n ∧ its.size ≤ sizeLine ∧ Vals xs its.toList
/-- a list that stays: the module's, or one that nobody changes -/
def FrL (K : PySem.W.Frag) (H : Hp) (a : Addr) (xs : List V) : Prop := StatL K a xs ∨ ∃ o, H a = some (.frz o (.lst xs))
theorem FrL.sq {K : PySem.W.Frag} {H : Hp} {a : Addr} {xs : List V} (h : FrL K H a xs) : SqL K H a xs := h.elim .inr fun q => .inl (.inr q)

mutual
def RD (K : PySem.W.Frag) (r : List Addr) (H : Hp) : D → V → Prop
  | .non, v => v = .non
  | .bl b, v => v = .bl b
  | .int i, v => v = .int i
  | .str s, v => v = .str ⟨s.toArray⟩
  | .tup ds, v => ∃ a xs, v = .ref a ∧ H a = some (.tup xs) ∧ RDs K r H ds xs
  | .ob i, v => ∃ a, r[i]? = some a ∧ v = .ref a
  | .kl ds, v => ∃ a xs, v = .ref a ∧ FrL K H a xs ∧ RDs K r H ds xs
def RDs (K : PySem.W.Frag) (r : List Addr) (H : Hp) : List D → List V → Prop
  | [], vs => vs = []
  | d :: ds, vs => ∃ v vr, vs = v :: vr ∧ RD K r H d v ∧ RDs K r H ds vr
end
/-- what may have changed: nothing that is a tuple, no address of the store -/
structure Grow (r : List Addr) (H : Hp) (r' : List Addr) (H' : Hp) : Prop where
  pre : ∀ (i : Nat) (a : Addr), r[i]? = some a → r'[i]? = some a
  tup : ∀ (a : Addr) (xs : List V), H a = some (.tup xs) → H' a = some (.tup xs)
  frz : ∀ (a : Addr) (o : Obj) (u : HO), H a = some (.frz o u) → H' a = some (.frz o u)
theorem FrL.mono {K : PySem.W.Frag} {H H' : Hp} {a : Addr} {xs : List V} (f : ∀ (o : Obj) (u : HO), H a = some (.frz o u) → H' a = some (.frz o u)) (h : FrL K H a xs) : FrL K H' a xs := h.imp id fun ⟨o, q⟩ => ⟨o, f o _ q⟩
theorem Grow.refl (r : List Addr) (H : Hp) : Grow r H r H := ⟨fun _ _ h => h, fun _ _ h => h, fun _ _ _ h => h⟩
theorem Grow.trans {r r1 r2 : List Addr} {H H1 H2 : Hp} (a : Grow r H r1 H1) (b : Grow r1 H1 r2 H2) : Grow r H r2 H2 :=
  ⟨fun i x h => b.pre i x (a.pre i x h), fun x xs h => b.tup x xs (a.tup x xs h), fun x o u h => b.frz x o u (a.frz x o u h)⟩
mutual
theorem RD.mono {K : PySem.W.Frag} {r r' : List Addr} {H H' : Hp} (g : Grow r H r' H') : ∀ (d : D) (v : V), RD K r H d v → RD K r' H' d v
  | .non, v, h => by unfold RD at h ⊢; exact h
  | .bl b, v, h => by unfold RD at h ⊢; exact h
  | .int i, v, h => by unfold RD at h ⊢; exact h
  | .str s, v, h => by unfold RD at h ⊢; exact h
  | .tup ds, v, h => by
    unfold RD at h ⊢
    obtain ⟨a, xs, e, h1, h2⟩ := h
    exact ⟨a, xs, e, g.tup a xs h1, RDs.mono g ds xs h2⟩
  | .ob i, v, h => by
    unfold RD at h ⊢
    obtain ⟨a, h1, e⟩ := h
    exact ⟨a, g.pre i a h1, e⟩
  | .kl ds, v, h => by
    unfold RD at h ⊢
    obtain ⟨a, xs, e, h1, h2⟩ := h
    exact ⟨a, xs, e, h1.mono (g.frz a), RDs.mono g ds xs h2⟩
theorem RDs.mono {K : PySem.W.Frag} {r r' : List Addr} {H H' : Hp} (g : Grow r H r' H') : ∀ (ds : List D) (vs : List V), RDs K r H ds vs → RDs K r' H' ds vs
  | [], vs, h => by unfold RDs at h ⊢; exact h
  | d :: ds, vs, h => by
    unfold RDs at h ⊢
    obtain ⟨v, vr, e, h1, h2⟩ := h
    exact ⟨v, vr, e, RD.mono g d v h1, RDs.mono g ds vr h2⟩
end
section
variable {K : PySem.W.Frag} {r : List Addr} {H : Hp}
theorem rd_non {v : V} : RD K r H .non v ↔ v = .non := by unfold RD; exact Iff.rfl
theorem rd_bl {v : V} {b : Bool} : RD K r H (.bl b) v ↔ v = .bl b := by unfold RD; exact Iff.rfl
theorem rd_int {v : V} {i : Int} : RD K r H (.int i) v ↔ v = .int i := by unfold RD; exact Iff.rfl
theorem rd_str {v : V} {s : List Nat} : RD K r H (.str s) v ↔ v = .str ⟨s.toArray⟩ := by unfold RD; exact Iff.rfl
theorem rd_tup {v : V} {ds : List D} : RD K r H (.tup ds) v ↔ ∃ a xs, v = .ref a ∧ H a = some (.tup xs) ∧ RDs K r H ds xs := by unfold RD; exact Iff.rfl
theorem rd_mut {v : V} {i : Nat} : RD K r H (.ob i) v ↔ ∃ a, r[i]? = some a ∧ v = .ref a := by unfold RD; exact Iff.rfl
theorem rd_kl {v : V} {ds : List D} : RD K r H (.kl ds) v ↔ ∃ a xs, v = .ref a ∧ FrL K H a xs ∧ RDs K r H ds xs := by unfold RD; exact Iff.rfl
theorem rds_nil {vs : List V} : RDs K r H [] vs ↔ vs = [] := by unfold RDs; exact Iff.rfl
theorem rds_cons {vs : List V} {d : D} {ds : List D} : RDs K r H (d :: ds) vs ↔ ∃ v vr, vs = v :: vr ∧ RD K r H d v ∧ RDs K r H ds vr := by
  constructor
  · intro h; unfold RDs at h; exact h
  · intro h; unfold RDs; exact h
theorem RDs.length : ∀ {ds : List D} {vs : List V}, RDs K r H ds vs → ds.length = vs.length
  | [], vs, h => by rw [rds_nil.mp h]; rfl
  | d :: ds, vs, h => by
    obtain ⟨v, vr, e, _, h2⟩ := rds_cons.mp h
    subst e
    simp [RDs.length h2]
theorem RDs.get : ∀ {ds : List D} {vs : List V} {i : Nat} {d : D}, RDs K r H ds vs → ds[i]? = some d → ∃ v, vs[i]? = some v ∧ RD K r H d v
  | [], _, _, _, _, e => by simp at e
  | d :: ds, vs, 0, _, h, e => by
    obtain ⟨v, vr, e', h1, h2⟩ := rds_cons.mp h
    subst e'
    simp at e
    subst e
    exact ⟨v, rfl, h1⟩
  | d :: ds, vs, i + 1, d', h, e => by
    obtain ⟨v, vr, e', h1, h2⟩ := rds_cons.mp h
    subst e'
    obtain ⟨w, a, b⟩ := RDs.get (i := i) h2 (by simpa using e)
    exact ⟨w, by simpa using a, b⟩
theorem RDs.append : ∀ {ds es : List D} {vs us : List V}, RDs K r H ds vs → RDs K r H es us → RDs K r H (ds ++ es) (vs ++ us)
  | [], _, vs, _, h, g => by rw [rds_nil.mp h]; exact g
  | d :: ds, es, vs, us, h, g => by
    obtain ⟨v, vr, e', h1, h2⟩ := rds_cons.mp h
    subst e'
    exact rds_cons.mpr ⟨v, vr ++ us, rfl, h1, RDs.append h2 g⟩
theorem RDs.one {d : D} {v : V} (h : RD K r H d v) : RDs K r H [d] [v] := rds_cons.mpr ⟨v, [], rfl, h, rds_nil.mpr rfl⟩
theorem RDs.drop : ∀ {ds : List D} {vs : List V} (n : Nat), RDs K r H ds vs → RDs K r H (ds.drop n) (vs.drop n)
  | _, _, 0, h => h
  | [], vs, n + 1, h => by rw [rds_nil.mp h]; exact rds_nil.mpr (by simp)
  | d :: ds, vs, n + 1, h => by
    obtain ⟨v, vr, e', h1, h2⟩ := rds_cons.mp h
    subst e'
    exact RDs.drop n h2
end

/-- what the proofs lean on: the class Reading, the classes of errors by number, the tables of code objects -/
structure Mo where
  C : Addr
  xc : Nat → Addr
  tb : List Addr
  lt : List (Addr × Str)
def fname : Nat → Str
  | 0 => "words"
  | 1 => "is_staged"
  | _ => "at"
def RFs (K : PySem.W.Frag) (r : List Addr) (H : Hp) : List (Nat × D) → List (Str × V) → Prop
  | [], fs => fs = []
  | p :: ps, fs => p.1 < 3 ∧ ∃ v fr, fs = (fname p.1, v) :: fr ∧ RD K r H p.2 v ∧ RFs K r H ps fr
def RKs (K : PySem.W.Frag) (r : List Addr) (H : Hp) : List (List Nat × D) → List (Key × V) → Prop
  | [], fs => fs = []
  | p :: ps, fs => ∃ v fr, fs = (Sum.inr ⟨p.1.toArray⟩, v) :: fr ∧ RD K r H p.2 v ∧ RKs K r H ps fr
theorem RFs.mono {K : PySem.W.Frag} {r r' : List Addr} {H H' : Hp} (g : Grow r H r' H') : ∀ (ds : List (Nat × D)) (vs : List (Str × V)), RFs K r H ds vs → RFs K r' H' ds vs
  | [], _, h => h
  | p :: ps, _, ⟨h0, v, fr, e, h1, h2⟩ => ⟨h0, v, fr, e, RD.mono g _ _ h1, RFs.mono g _ _ h2⟩
theorem RKs.mono {K : PySem.W.Frag} {r r' : List Addr} {H H' : Hp} (g : Grow r H r' H') : ∀ (ds : List (List Nat × D)) (vs : List (Key × V)), RKs K r H ds vs → RKs K r' H' ds vs
  | [], _, h => h
  | p :: ps, _, ⟨v, fr, e, h1, h2⟩ => ⟨v, fr, e, RD.mono g _ _ h1, RKs.mono g _ _ h2⟩
def RO (K : PySem.W.Frag) (C : Addr) (r : List Addr) (H : Hp) : MO → Addr → Prop
  | .lst ds, a => ∃ xs, H a = some (.lst xs) ∧ RDs K r H ds xs
  | .ins fs, a => ∃ dx fv, H a = some (.ins C dx fv) ∧ RFs K r H fs fv
  | .dk kvs, a => ∃ kv, H a = some (.dK kv) ∧ RKs K r H kvs kv
/-- the store stands in the heap -/
structure RS (K : PySem.W.Frag) (M : Mo) (r : List Addr) (S : Sto) (H : Hp) : Prop where
  len : r.length = S.length
  obj : ∀ (i : Nat) (a : Addr) (o : MO), r[i]? = some a → S[i]? = some o → RO K M.C r H o a
  nd : ∀ (i j : Nat) (a : Addr), r[i]? = some a → r[j]? = some a → i = j
  tab : ∀ P ∈ M.tb, GxR.TabG H P
  lam : LamX.Tabs M.lt H
def isMut : HO → Bool
  | .lst _ => true
  | .ins _ _ _ => true
  | .dK _ => true
  | _ => false
theorem RO.mutable {K : PySem.W.Frag} {C : Addr} {r : List Addr} {H : Hp} {o : MO} {a : Addr} (h : RO K C r H o a) : ∃ u, H a = some u ∧ isMut u = true := by
  cases o with
  | lst ds => obtain ⟨xs, h, _⟩ := h; exact ⟨_, h, rfl⟩
  | ins fs => obtain ⟨dx, fv, h, _⟩ := h; exact ⟨_, h, rfl⟩
  | dk kvs => obtain ⟨kv, h, _⟩ := h; exact ⟨_, h, rfl⟩
theorem RS.mutable {K : PySem.W.Frag} {M : Mo} {r : List Addr} {S : Sto} {H : Hp} (R : RS K M r S H) {i : Nat} {a : Addr} (h : r[i]? = some a) : ∃ u, H a = some u ∧ isMut u = true := by
  have hi : i < S.length := by rw [← R.len]; exact (List.getElem?_eq_some_iff.mp h).1
  exact (R.obj i a S[i] h (List.getElem?_eq_getElem hi)).mutable
/-- what a step that touches none of the store's objects leaves -/
structure Leaves (M : Mo) (H H' : Hp) : Prop where
  keep : ∀ a u, H a = some u → (∀ ps, u ≠ .tbl ps) → H' a = some u
  tab : ∀ P ∈ M.tb, GxR.TabG H P → GxR.TabG H' P
  lam : LamX.Tabs M.lt H → LamX.Tabs M.lt H'
theorem tabs_keep {T : List (Addr × Str)} {H H' : Hp} (k : ∀ a u, H a = some u → H' a = some u) (h : LamX.Tabs T H) : LamX.Tabs T H' := h.ext k
theorem Leaves.of {M : Mo} {H H' : Hp} (k : ∀ a u, H a = some u → H' a = some u) : Leaves M H H' :=
  ⟨fun a u h _ => k a u h, fun P _ ⟨ps, h, t⟩ => ⟨ps, k _ _ h, t⟩, tabs_keep k⟩
theorem Leaves.refl (M : Mo) (H : Hp) : Leaves M H H := .of fun _ _ h => h
theorem Leaves.new {M : Mo} {H : Hp} {p : Addr} {o : HO} (h : H p = none) : Leaves M H (upd H p o) := .of fun a u e => by
  rw [upd_ne (ne_of_none e h)]
  exact e
theorem Leaves.grow {M : Mo} {r : List Addr} {H H' : Hp} (l : Leaves M H H') : Grow r H r H' := ⟨fun _ _ h => h, fun a xs h => l.keep a _ h fun _ z => (by cases z), fun a o u h => l.keep a _ h fun _ z => (by cases z)⟩
theorem RO.leaves {K : PySem.W.Frag} {M : Mo} {r r' : List Addr} {H H' : Hp} {o : MO} {a : Addr} (l : Leaves M H H') (g : Grow r H r' H') (h : RO K M.C r H o a) : RO K M.C r' H' o a := by
  cases o with
  | lst ds => obtain ⟨xs, h, q⟩ := h; exact ⟨xs, l.keep _ _ h (fun _ z => by cases z), RDs.mono g _ _ q⟩
  | ins fs => obtain ⟨dx, fv, h, q⟩ := h; exact ⟨dx, fv, l.keep _ _ h (fun _ z => by cases z), RFs.mono g _ _ q⟩
  | dk kvs => obtain ⟨kv, h, q⟩ := h; exact ⟨kv, l.keep _ _ h (fun _ z => by cases z), RKs.mono g _ _ q⟩
theorem RS.leaves {K : PySem.W.Frag} {M : Mo} {r : List Addr} {S : Sto} {H H' : Hp} (l : Leaves M H H') (R : RS K M r S H) : RS K M r S H' :=
  ⟨R.len, fun i a o h1 h2 => (R.obj i a o h1 h2).leaves l l.grow, R.nd, fun P hP => l.tab P hP (R.tab P hP), l.lam R.lam⟩
/-- a new object that changes -/
theorem RS.push {K : PySem.W.Frag} {M : Mo} {r : List Addr} {S : Sto} {H : Hp} (R : RS K M r S H) {p : Addr} {u : HO} {o : MO} (hp : H p = none) (ho : ∀ r' H', Grow r H r' H' → H' p = some u → RO K M.C r' H' o p) :
    RS K M (r ++ [p]) (S ++ [o]) (upd H p u) ∧ Grow r H (r ++ [p]) (upd H p u) := by
  have l : Leaves M H (upd H p u) := Leaves.new hp
  have pre : ∀ (i : Nat) (a : Addr), r[i]? = some a → (r ++ [p])[i]? = some a := fun i a h => by
    rw [List.getElem?_append_left (List.getElem?_eq_some_iff.mp h).1]
    exact h
  have g : Grow r H (r ++ [p]) (upd H p u) := ⟨pre, l.grow (r := r).tup, l.grow (r := r).frz⟩
  have cut : ∀ (i : Nat) (a : Addr), (r ++ [p])[i]? = some a → r[i]? = some a ∨ (i = r.length ∧ a = p) := fun i a h => by
    by_cases hi : i < r.length
    · rw [List.getElem?_append_left hi] at h
      exact .inl h
    · rw [List.getElem?_append_right (Nat.le_of_not_lt hi)] at h
      have h2 := List.getElem?_eq_some_iff.mp h
      obtain ⟨h3, h4⟩ := h2
      have h5 : i - r.length = 0 := by simpa using h3
      refine .inr ⟨by omega, ?_⟩
      simp only [h5] at h4
      exact h4.symm
  have np : ∀ (i : Nat), r[i]? ≠ some p := fun i h => by
    obtain ⟨u, e, _⟩ := R.mutable h
    rw [hp] at e
    cases e
  refine ⟨⟨by simp [R.len], fun i a o' h1 h2 => ?_, fun i j a h1 h2 => ?_, fun P hP => l.tab P hP (R.tab P hP), l.lam R.lam⟩, g⟩
  · rcases cut i a h1 with h1 | ⟨rfl, rfl⟩
    · have hi : i < S.length := by rw [← R.len]; exact (List.getElem?_eq_some_iff.mp h1).1
      rw [List.getElem?_append_left hi] at h2
      exact (R.obj i a o' h1 h2).leaves l g
    · rw [R.len, List.getElem?_append_right (Nat.le_refl _)] at h2
      simp at h2
      subst h2
      exact ho _ _ g upd_same
  · rcases cut i a h1 with k1 | ⟨e1, e2⟩
    · rcases cut j a h2 with k2 | ⟨e3, e4⟩
      · exact R.nd i j a k1 k2
      · rw [e4] at k1
        exact absurd k1 (np i)
    · rcases cut j a h2 with k2 | ⟨e3, e4⟩
      · rw [e2] at k2
        exact absurd k2 (np j)
      · rw [e1, e3]
/-- an object changed -/
theorem RS.put {K : PySem.W.Frag} {M : Mo} {r : List Addr} {S : Sto} {H : Hp} (R : RS K M r S H) {i : Nat} {p : Addr} {u : HO} {o : MO} (hi : r[i]? = some p) (hm : isMut u = true) (ho : ∀ H', Grow r H r H' → H' p = some u → RO K M.C r H' o p) :
    RS K M r (S.set i o) (upd H p u) ∧ Grow r H r (upd H p u) := by
  obtain ⟨u0, e0, m0⟩ := R.mutable hi
  have nt : ∀ a w, H a = some w → isMut w = false → a ≠ p := fun a w e m z => by
    rw [z, e0] at e
    cases e
    rw [m0] at m
    cases m
  have g : Grow r H r (upd H p u) := ⟨fun _ _ h => h, fun a xs h => by rw [upd_ne (nt a _ h rfl)]; exact h, fun a o u h => by rw [upd_ne (nt a _ h rfl)]; exact h⟩
  refine ⟨⟨by simp [R.len], fun j a o' h1 h2 => ?_, R.nd, fun P hP => ?_, fun q hq => ?_⟩, g⟩
  · by_cases hj : i = j
    · subst hj
      rw [hi] at h1
      cases h1
      rw [List.getElem?_set_self (by rw [← R.len]; exact (List.getElem?_eq_some_iff.mp hi).1)] at h2
      cases h2
      exact ho _ g upd_same
    · rw [List.getElem?_set_ne hj] at h2
      have na : a ≠ p := fun z => hj (R.nd i j p hi (by rw [← z]; exact h1))
      have q := R.obj j a o' h1 h2
      cases o' with
      | lst ds => obtain ⟨xs, h, q⟩ := q; exact ⟨xs, by rw [upd_ne na]; exact h, RDs.mono g _ _ q⟩
      | ins fs => obtain ⟨dx, fv, h, q⟩ := q; exact ⟨dx, fv, by rw [upd_ne na]; exact h, RFs.mono g _ _ q⟩
      | dk kvs => obtain ⟨kv, h, q⟩ := q; exact ⟨kv, by rw [upd_ne na]; exact h, RKs.mono g _ _ q⟩
  · obtain ⟨ps, h, t⟩ := R.tab P hP
    exact ⟨ps, by rw [upd_ne (nt P _ h rfl)]; exact h, t⟩
  · obtain ⟨ps, h1, h2, h3⟩ := R.lam q hq
    refine ⟨ps, by rw [upd_ne (nt _ _ h1 rfl)]; exact h1, h2, fun pos cv hc => ?_⟩
    obtain ⟨c, e1, e2⟩ := h3 pos cv hc
    exact ⟨c, e1, by rw [upd_ne (nt c _ e2 rfl)]; exact e2⟩

/-- the slots -/
abbrev En := List (Option D)
structure RE (K : PySem.W.Frag) (r : List Addr) (H : Hp) (e : En) (σ : L2.St) : Prop where
  len : e.length = σ.length
  at_ : ∀ (i : Nat) (d : D), e[i]? = some (some d) → ∃ v, σ[i]? = some (some v) ∧ RD K r H d v
theorem RE.mono {K : PySem.W.Frag} {r r' : List Addr} {H H' : Hp} {e : En} {σ : L2.St} (g : Grow r H r' H') (h : RE K r H e σ) : RE K r' H' e σ :=
  ⟨h.len, fun i d q => let ⟨v, a, b⟩ := h.at_ i d q; ⟨v, a, RD.mono g _ _ b⟩⟩
theorem RE.set {K : PySem.W.Frag} {r : List Addr} {H : Hp} {e : En} {σ : L2.St} (h : RE K r H e σ) {d : D} {v : V} (q : RD K r H d v) (i : Nat) : RE K r H (setN e i (some d)) (σ.set i (some v)) := by
  rw [setN_eq]
  refine ⟨by simp [h.len], fun j d' z => ?_⟩
  by_cases hj : i = j
  · subst hj
    have hl : i < e.length := by
      have := (List.getElem?_eq_some_iff.mp z).1
      simpa using this
    rw [List.getElem?_set_self hl] at z
    cases z
    exact ⟨v, List.getElem?_set_self (by rw [← h.len]; exact hl), q⟩
  · rw [List.getElem?_set_ne hj] at z ⊢
    exact h.at_ j d' z

/-- what an answer says -/
def Post {a b : Type} (R : List Addr → Hp → a → b → Prop) (K : PySem.W.Frag) (M : Mo) (r : List Addr) (H : Hp) (Q : b → Hp → Prop) (E : XK) : Ans a → Prop
  | .ok d S => ∀ r' H' v, Grow r H r' H' → R r' H' d v → RS K M r' S H' → Q v H'
  | .exc c S => ∀ r' H', Grow r H r' H' → RS K M r' S H' → E (.ref (M.xc c)) none H'
  | .bad => False
theorem Post.grow {a b : Type} {R : List Addr → Hp → a → b → Prop} {K : PySem.W.Frag} {M : Mo} {r r1 : List Addr} {H H1 : Hp} {Q : b → Hp → Prop} {E : XK} {x : Ans a} (h : Post R K M r H Q E x) (g : Grow r H r1 H1) : Post R K M r1 H1 Q E x := by
  cases x with
  | ok d S => exact fun r' H' v g' => h r' H' v (g.trans g')
  | exc c S => exact fun r' H' g' => h r' H' (g.trans g')
  | bad => exact h
theorem Post.bind {a b a2 b2 : Type} {R : List Addr → Hp → a → b → Prop} {R2 : List Addr → Hp → a2 → b2 → Prop} {K : PySem.W.Frag} {M : Mo} {r : List Addr} {H : Hp} {Q' : b → Hp → Prop} {Q : b2 → Hp → Prop} {E : XK} {x : Ans a} {k : a → Sto → Ans a2}
    (h : Post R2 K M r H Q E (x.bind k)) (hk : ∀ d S r' H' v, x = .ok d S → Grow r H r' H' → R r' H' d v → RS K M r' S H' → Post R2 K M r' H' Q E (k d S) → Q' v H') : Post R K M r H Q' E x := by
  cases x with
  | ok d S => exact fun r' H' v g q s => hk d S r' H' v rfl g q s (Post.grow (x := k d S) h g)
  | exc c S => exact h
  | bad => exact h
/-- the store is as it was, the heap but for what is new -/
theorem Post.here {a b : Type} {R : List Addr → Hp → a → b → Prop} {K : PySem.W.Frag} {M : Mo} {r : List Addr} {H : Hp} {Q : b → Hp → Prop} {E : XK} {d : a} {S : Sto} {v : b} (h : Post R K M r H Q E (.ok d S)) (s : RS K M r S H) (q : R r H d v) : Q v H :=
  h r H v (Grow.refl r H) q s

abbrev EF := En → Sto → Ans D
abbrev BF := En → Sto → Ans Bool
abbrev AF := En → Sto → Ans (List D)
def RB : List Addr → Hp → Bool → Bool → Prop := fun _ _ b c => b = c
section
variable (X : Cx) (M : Mo) (E : XK)
/-- an expression, a test, arguments: a rule of the layer for it, and what the rule asks follows from what the function tells -/
structure SE (e : Expr) (f : EF) : Prop where
  ex : ∃ te, PE X e te ∧ ∀ r S en σ H Q, RE X.K r H en σ → RS X.K M r S H → Post (RD X.K) X.K M r H Q E (f en S) → te σ H Q
structure ST (e : Expr) (f : BF) : Prop where
  ex : ∃ te, PT X e te ∧ ∀ r S en σ H Q, RE X.K r H en σ → RS X.K M r S H → Post RB X.K M r H Q E (f en S) → te σ H Q
structure SA (es : List Expr) (f : AF) : Prop where
  ex : ∃ te, PA X es te ∧ ∀ r S en σ H Q, RE X.K r H en σ → RS X.K M r S H → Post (RDs X.K) X.K M r H Q E (f en S) → te σ H Q
  len : ∀ en S ds S', f en S = .ok ds S' → ds.length = es.length
end
/-- statements -/
inductive Out where
  | nx (e : En) (S : Sto) | rt (d : D) (S : Sto) | bk (e : En) (S : Sto) | ct (e : En) (S : Sto) | exc (c : Nat) (S : Sto) | bad
def PostS (K : PySem.W.Frag) (M : Mo) (r : List Addr) (H : Hp) (Z : Ends) (E : XK) : Out → Prop
  | .nx e S => ∀ r' H' σ, Grow r H r' H' → RE K r' H' e σ → RS K M r' S H' → Z.nx σ H'
  | .rt d S => ∀ r' H' v, Grow r H r' H' → RD K r' H' d v → RS K M r' S H' → Z.rt v H'
  | .bk e S => ∀ r' H' σ, Grow r H r' H' → RE K r' H' e σ → RS K M r' S H' → Z.bk σ H'
  | .ct e S => ∀ r' H' σ, Grow r H r' H' → RE K r' H' e σ → RS K M r' S H' → Z.ct σ H'
  | .exc c S => ∀ r' H', Grow r H r' H' → RS K M r' S H' → E (.ref (M.xc c)) none H'
  | .bad => False
theorem PostS.grow {K : PySem.W.Frag} {M : Mo} {r r1 : List Addr} {H H1 : Hp} {Z : Ends} {E : XK} {x : Out} (h : PostS K M r H Z E x) (g : Grow r H r1 H1) : PostS K M r1 H1 Z E x := by
  cases x with
  | nx e S => exact fun r' H' v g' => h r' H' v (g.trans g')
  | rt e S => exact fun r' H' v g' => h r' H' v (g.trans g')
  | bk e S => exact fun r' H' v g' => h r' H' v (g.trans g')
  | ct e S => exact fun r' H' v g' => h r' H' v (g.trans g')
  | exc c S => exact fun r' H' g' => h r' H' (g.trans g')
  | bad => exact h
abbrev SF := En → Sto → Out
def Ans.out {a : Type} (x : Ans a) (k : a → Sto → Out) : Out := match x with
  | .ok d S => k d S
  | .exc c S => .exc c S
  | .bad => .bad
theorem PostS.out {a b : Type} {R : List Addr → Hp → a → b → Prop} {K : PySem.W.Frag} {M : Mo} {r : List Addr} {H : Hp} {Q' : b → Hp → Prop} {Z : Ends} {E : XK} {x : Ans a} {k : a → Sto → Out}
    (h : PostS K M r H Z E (x.out k)) (hk : ∀ d S r' H' v, x = .ok d S → Grow r H r' H' → R r' H' d v → RS K M r' S H' → PostS K M r' H' Z E (k d S) → Q' v H') : Post R K M r H Q' E x := by
  cases x with
  | ok d S => exact fun r' H' v g q s => hk d S r' H' v rfl g q s (PostS.grow (x := k d S) h g)
  | exc c S => exact h
  | bad => exact h
section
variable (X : Cx) (M : Mo) (E : XK)
structure SS (st : Stmt) (f : SF) : Prop where
  ex : ∃ ts, PS X st ts ∧ ∀ r S en σ H Z, RE X.K r H en σ → RS X.K M r S H → PostS X.K M r H Z E (f en S) → ts Z σ H
structure SSs (st : List Stmt) (f : SF) : Prop where
  ex : ∃ ts, PSs X st ts ∧ ∀ r S en σ H Z, RE X.K r H en σ → RS X.K M r S H → PostS X.K M r H Z E (f en S) → ts Z σ H
end
end Kv

/-! Expressions. -/
namespace Kv
open PySem PySem.Spec PyProof.Rows L2
theorem leB_le {a b : Nat} (h : Nat.ble a b = true) : a ≤ b := Nat.le_of_ble_eq_true h
def beqN : List Nat → List Nat → Bool
  | [], [] => true
  | a :: r, b :: q => match Nat.beq a b with
    | true => beqN r q
    | false => false
  | _, _ => false
theorem beqN_iff : ∀ {a b : List Nat}, beqN a b = true ↔ a = b
  | [], [] => by simp [beqN]
  | [], _ :: _ => by simp [beqN]
  | _ :: _, [] => by simp [beqN]
  | a :: r, b :: q => by
    unfold beqN
    cases h : Nat.beq a b with
    | true =>
      have e : a = b := Nat.eq_of_beq_eq_true h
      subst e
      simp only [List.cons.injEq, true_and]
      exact beqN_iff
    | false =>
      have e : a ≠ b := Nat.ne_of_beq_eq_false h
      simp [e]
def memN (c : Nat) : List Nat → Bool
  | [] => false
  | b :: r => match Nat.beq c b with
    | true => true
    | false => memN c r
theorem memN_iff {c : Nat} : ∀ {l : List Nat}, memN c l = true ↔ c ∈ l
  | [] => by simp [memN]
  | b :: r => by
    unfold memN
    cases h : Nat.beq c b with
    | true =>
      have e : c = b := Nat.eq_of_beq_eq_true h
      simp [e]
    | false =>
      have e : c ≠ b := Nat.ne_of_beq_eq_false h
      simp only [List.mem_cons, e, false_or]
      exact memN_iff
def eqI (a b : Int) : Bool := match a, b with
  | .ofNat m, .ofNat n => Nat.beq m n
  | .negSucc m, .negSucc n => Nat.beq m n
  | _, _ => false
theorem eqI_iff {a b : Int} : eqI a b = true ↔ a = b := by
  cases a <;> cases b <;> simp [eqI, Nat.beq_eq]
  constructor <;> intro h <;> omega
def ltI (a b : Int) : Bool := PySem.W.Z.ltB a b
def leI (a b : Int) : Bool := PySem.W.Z.leB a b
/-- scalars alike; nothing for the rest -/
def eqD : D → D → Option Bool
  | .non, .non => some true
  | .bl a, .bl b => some (match a, b with | true, true => true | false, false => true | _, _ => false)
  | .int a, .int b => some (eqI a b)
  | .str a, .str b => some (beqN a b)
  | .non, .str _ => some false
  | .str _, .non => some false
  | .non, .int _ => some false
  | .int _, .non => some false
  | .int _, .str _ => some false
  | .str _, .int _ => some false
  | _, _ => none
theorem str_inj {a b : List Nat} : (V.str ⟨a.toArray⟩ = V.str ⟨b.toArray⟩) ↔ a = b := by
  constructor
  · intro h
    injection h with h
    injection h with h
    exact List.toArray_inj h
  · intro h; rw [h]
theorem dec_of {p : Prop} [Decidable p] {b : Bool} (h : b = true ↔ p) : decide p = b := by
  cases b with
  | true => exact decide_eq_true (h.mp rfl)
  | false => exact decide_eq_false fun z => by cases h.mpr z
theorem eqD_ok {K : PySem.W.Frag} {r : List Addr} {H : Hp} {x y : D} {u v : V} {b : Bool} (h : eqD x y = some b) (hx : RD K r H x u) (hy : RD K r H y v) : scal u v = true ∧ decide (u = v) = b := by
  cases x <;> cases y <;> simp only [eqD] at h <;> try cases h
  all_goals first
    | (rw [rd_non.mp hx, rd_non.mp hy]; exact ⟨rfl, decide_eq_true rfl⟩)
    | (rename_i a c; rw [rd_bl.mp hx, rd_bl.mp hy]; exact ⟨rfl, by cases a <;> cases c <;> decide⟩)
    | (rename_i a c; rw [rd_int.mp hx, rd_int.mp hy]; exact ⟨rfl, dec_of (eqI_iff.trans ⟨fun e => by rw [e], fun e => by injection e⟩)⟩)
    | (rename_i a c; rw [rd_str.mp hx, rd_str.mp hy]; exact ⟨rfl, dec_of (beqN_iff.trans str_inj.symm)⟩)
    | (rw [rd_non.mp hx, rd_str.mp hy]; exact ⟨rfl, decide_eq_false fun z => by cases z⟩)
    | (rw [rd_str.mp hx, rd_non.mp hy]; exact ⟨rfl, decide_eq_false fun z => by cases z⟩)
    | (rw [rd_non.mp hx, rd_int.mp hy]; exact ⟨rfl, decide_eq_false fun z => by cases z⟩)
    | (rw [rd_int.mp hx, rd_non.mp hy]; exact ⟨rfl, decide_eq_false fun z => by cases z⟩)
    | (rw [rd_int.mp hx, rd_str.mp hy]; exact ⟨rfl, decide_eq_false fun z => by cases z⟩)
    | (rw [rd_str.mp hx, rd_int.mp hy]; exact ⟨rfl, decide_eq_false fun z => by cases z⟩)

section
variable {X : Cx} {M : Mo} {E : XK}
/-! ### names and constants -/
def eVar (i : Nat) : EF := fun en S => match nth en i with
  | some (some d) => .ok d S
  | _ => .bad
theorem tVar_ok (i : Nat) : ∀ r S en σ H Q, RE X.K r H en σ → RS X.K M r S H → Post (RD X.K) X.K M r H Q E (eVar i en S) → tVar i σ H Q := by
  intro r S en σ H Q he hs h
  unfold eVar at h
  rw [nth_eq] at h
  cases e : en[i]? with
  | none => rw [e] at h; exact h.elim
  | some o =>
    cases o with
    | none => rw [e] at h; exact h.elim
    | some d =>
      rw [e] at h
      obtain ⟨v, h1, h2⟩ := he.at_ i d e
      exact ⟨v, h1, Post.here h hs h2⟩
theorem se_var (i : Nat) {x : Str} {pos : Pos} (hN : X.N[i]? = some x := by rfl) (hv : Vis X.env.scope x := by first | exact Or.inl rfl | exact Or.inr (Or.inl rfl) | exact Or.inr (Or.inr rfl)) (hd : (x == ("__debug__" : Str)) = false := by decide)
    (hcd : (x == ("__classdict__" : Str)) = false := by decide) : SE X M E (.Name x pos) (eVar i) := ⟨_, pe_var hN hv hd hcd, tVar_ok i⟩
def eC (d : D) : EF := fun _ S => .ok d S
theorem tC_ok {d : D} {v : V} (hv : ∀ r H, RD X.K r H d v) : ∀ r S en σ H Q, RE X.K r H en σ → RS X.K M r S H → Post (RD X.K) X.K M r H Q E (eC d en S) → tC v σ H Q := fun r S en σ H Q _ hs h => Post.here h hs (hv r H)
theorem se_int {i : Int} {j pos} : SE X M E (.Constant (.int i) j pos) (eC (.int i)) := ⟨_, pe_int, tC_ok fun _ _ => rd_int.mpr rfl⟩
theorem se_bl {b : Bool} {j pos} : SE X M E (.Constant (.bool b) j pos) (eC (.bl b)) := ⟨_, pe_bl, tC_ok fun _ _ => rd_bl.mpr rfl⟩
theorem se_non {j pos} : SE X M E (.Constant .none j pos) (eC .non) := ⟨_, pe_non, tC_ok fun _ _ => rd_non.mpr rfl⟩
theorem se_str {x : Str} {j pos} (s : List Nat) (h : x = ⟨s.toArray⟩) : SE X M E (.Constant (.str x) j pos) (eC (.str s)) := ⟨_, pe_str, tC_ok fun _ _ => rd_str.mpr (by rw [h])⟩
/-- a global's value -/
def GlobIs (K : PySem.W.Frag) (d : D) (u : Value) : Prop := ∃ v, RelV v u ∧ ∀ r H, RD K r H d v
theorem se_glob {x : Str} {d : D} {u : Value} {pos : Pos} (hg : Gl X x) (hm : X.mg x = some u) (g : GlobIs X.K d u) (hd : (x == ("__debug__" : Str)) = false := by decide) : SE X M E (.Name x pos) (eC d) := by
  obtain ⟨v, rv, hv⟩ := g
  exact ⟨_, pe_glob hg hm rv hd, tC_ok hv⟩

/-! ### operators by values -/
abbrev OF := D → D → Sto → Ans D
def OpOk (K : PySem.W.Frag) (M : Mo) (E : XK) (t : R2) (o : OF) : Prop := ∀ (r : List Addr) (S : Sto) (H : Hp) (x y : D) (u v : V) (Q : VK), RD K r H x u → RD K r H y v → RS K M r S H → Post (RD K) K M r H Q E (o x y S) → t u v H Q
def eOp (o : OF) (f g : EF) : EF := fun en S => (f en S).bind fun x S1 => (g en S1).bind fun y S2 => o x y S2
theorem tOp_ok {t : R2} {o : OF} {ta tb : TE} {f g : EF} (ho : OpOk X.K M E t o)
    (ha : ∀ r S en σ H Q, RE X.K r H en σ → RS X.K M r S H → Post (RD X.K) X.K M r H Q E (f en S) → ta σ H Q)
    (hb : ∀ r S en σ H Q, RE X.K r H en σ → RS X.K M r S H → Post (RD X.K) X.K M r H Q E (g en S) → tb σ H Q) :
    ∀ r S en σ H Q, RE X.K r H en σ → RS X.K M r S H → Post (RD X.K) X.K M r H Q E (eOp o f g en S) → tOp t ta tb σ H Q := by
  intro r S en σ H Q he hs h
  refine ha r S en σ H _ he hs (Post.bind h fun x S1 r1 H1 u _ g1 q1 s1 h1 => ?_)
  refine hb r1 S1 en σ H1 _ (he.mono g1) s1 (Post.bind h1 fun y S2 r2 H2 v _ g2 q2 s2 h2 => ?_)
  exact ho r2 S2 H2 x y u v Q (RD.mono g2 _ _ q1) q2 s2 h2
theorem se_op {op : Operator} {a b : Expr} {pos : Pos} {t : R2} {o : OF} {f g : EF} (hr : OpR X (binaryOp op) t) (ho : OpOk X.K M E t o) (ha : SE X M E a f) (hb : SE X M E b g) : SE X M E (.BinOp a op b pos) (eOp o f g) := by
  obtain ⟨ta, pa, qa⟩ := ha
  obtain ⟨tb, pb, qb⟩ := hb
  exact ⟨_, pe_op hr pa pb, tOp_ok ho qa qb⟩
theorem se_cmp {op : CmpOp} {a b : Expr} {pos : Pos} {t : R2} {o : OF} {f g : EF} (hr : OpR X (compareOp op) t) (ho : OpOk X.K M E t o) (ha : SE X M E a f) (hb : SE X M E b g) (hm : behindInMarks op b = false) : SE X M E (.Compare a [op] [b] pos) (eOp o f g) := by
  obtain ⟨ta, pa, qa⟩ := ha
  obtain ⟨tb, pb, qb⟩ := hb
  exact ⟨_, pe_cmpR hr pa pb hm, tOp_ok ho qa qb⟩
/-- a value that is a bool, as a test -/
def bT (f : EF) : BF := fun en S => (f en S).bind fun x S1 => match x with
  | .bl b => .ok b S1
  | _ => .bad
theorem tB_ok {ta : TE} {f : EF} (ha : ∀ r S en σ H Q, RE X.K r H en σ → RS X.K M r S H → Post (RD X.K) X.K M r H Q E (f en S) → ta σ H Q) :
    ∀ r S en σ H Q, RE X.K r H en σ → RS X.K M r S H → Post RB X.K M r H Q E (bT f en S) → tB ta σ H Q := by
  intro r S en σ H Q he hs h
  refine ha r S en σ H _ he hs (Post.bind h fun x S1 r1 H1 u _ g1 q1 s1 h1 => ?_)
  cases x with
  | bl b => exact ⟨b, rd_bl.mp q1, Post.here h1 s1 rfl⟩
  | _ => exact h1.elim
theorem st_cmp {op : CmpOp} {a b : Expr} {pos : Pos} {t : R2} {o : OF} {f g : EF} (hr : OpR X (compareOp op) t) (ho : OpOk X.K M E t o) (ha : SE X M E a f) (hb : SE X M E b g) (hm : behindInMarks op b = false) : ST X M E (.Compare a [op] [b] pos) (bT (eOp o f g)) := by
  obtain ⟨ta, pa, qa⟩ := ha
  obtain ⟨tb, pb, qb⟩ := hb
  exact ⟨_, pt_cmpR hr pa pb hm, tB_ok (tOp_ok ho qa qb)⟩
theorem st_val {e : Expr} {f : EF} (h : SE X M E e f) (he : ∀ whole, isTrue e X.env whole = (do let v ← whole; standAt e.pos; holding [v] (truthy v)) := by intro _; rfl) : ST X M E e (bT f) := by
  obtain ⟨t, p, q⟩ := h
  exact ⟨_, pt_val p he, tB_ok q⟩
def oAdd : OF := fun x y S => match x, y with
  | .int i, .int j => .ok (.int (i + j)) S
  | _, _ => .bad
theorem ok_add : OpOk X.K M E (rI0 fun i j => .int (i + j)) oAdd := by
  intro r S H x y u v Q hx hy hs h
  cases x <;> cases y <;> first | exact h.elim | skip
  exact ⟨_, _, rd_int.mp hx, rd_int.mp hy, Post.here h hs (rd_int.mpr rfl)⟩
def oSub : OF := fun x y S => match x, y with
  | .int i, .int j => .ok (.int (i - j)) S
  | _, _ => .bad
theorem ok_sub : OpOk X.K M E (rI0 fun i j => .int (i - j)) oSub := by
  intro r S H x y u v Q hx hy hs h
  cases x <;> cases y <;> first | exact h.elim | skip
  exact ⟨_, _, rd_int.mp hx, rd_int.mp hy, Post.here h hs (rd_int.mpr rfl)⟩
def lim : Nat := 100000
theorem lim_le {n : Nat} (h : Nat.ble n lim = true) : n ≤ sizeLine := Nat.le_trans (Nat.le_of_ble_eq_true h) (by rw [sizeLine_eq]; decide)
theorem lim_lt {n : Nat} (h : Nat.ble n lim = true) : n < sizeLine := Nat.lt_of_le_of_lt (Nat.le_of_ble_eq_true h) (by rw [sizeLine_eq]; decide)
def oCatS : OF := fun x y S => match x, y with
  | .str i, .str j => match Nat.ble (i.length + j.length) lim with
    | true => .ok (.str (i ++ j)) S
    | false => .bad
  | _, _ => .bad
theorem str_cat (a b : List Nat) : ((⟨a.toArray⟩ : Str) ++ (⟨b.toArray⟩ : Str)) = ⟨(a ++ b).toArray⟩ := by
  show (⟨a.toArray ++ b.toArray⟩ : Str) = _
  rw [List.append_toArray]
theorem str_len (a : List Nat) : (⟨a.toArray⟩ : Str).length = a.length := by
  show a.toArray.size = a.length
  simp
theorem ok_catS : OpOk X.K M E (fun x y H Q => ∃ i j, x = .str i ∧ y = .str j ∧ i.length + j.length ≤ sizeLine ∧ Q (.str (i ++ j)) H) oCatS := by
  intro r S H x y u v Q hx hy hs h
  cases x <;> cases y <;> first | exact h.elim | skip
  rename_i i j
  simp only [oCatS] at h
  cases e : Nat.ble (i.length + j.length) lim with
  | false => rw [e] at h; exact h.elim
  | true =>
    rw [e] at h
    refine ⟨_, _, rd_str.mp hx, rd_str.mp hy, by rw [str_len, str_len]; exact lim_le e, ?_⟩
    exact Post.here h hs (rd_str.mpr (by rw [str_cat]))
def oEq : OF := fun x y S => match eqD x y with
  | some b => .ok (.bl b) S
  | none => .bad
theorem ok_eq : OpOk X.K M E rEq oEq := by
  intro r S H x y u v Q hx hy hs h
  unfold oEq at h
  cases e : eqD x y with
  | none => rw [e] at h; exact h.elim
  | some b =>
    rw [e] at h
    obtain ⟨h1, h2⟩ := eqD_ok e hx hy
    exact ⟨h1, Post.here h hs (rd_bl.mpr (by rw [h2]))⟩
def oNe : OF := fun x y S => match eqD x y with
  | some b => .ok (.bl (!b)) S
  | none => .bad
theorem ok_ne : OpOk X.K M E rNe oNe := by
  intro r S H x y u v Q hx hy hs h
  unfold oNe at h
  cases e : eqD x y with
  | none => rw [e] at h; exact h.elim
  | some b =>
    rw [e] at h
    obtain ⟨h1, h2⟩ := eqD_ok e hx hy
    exact ⟨h1, Post.here h hs (rd_bl.mpr (by rw [h2]))⟩
def oI (p : Int → Int → Bool) : OF := fun x y S => match x, y with
  | .int i, .int j => .ok (.bl (p i j)) S
  | _, _ => .bad
theorem ok_I {p : Int → Int → Bool} {q : Int → Int → Bool} (hpq : ∀ i j, q i j = p i j) : OpOk X.K M E (rI0 fun i j => .bl (q i j)) (oI p) := by
  intro r S H x y u v Q hx hy hs h
  cases x <;> cases y <;> first | exact h.elim | skip
  exact ⟨_, _, rd_int.mp hx, rd_int.mp hy, Post.here h hs (rd_bl.mpr (congrArg V.bl (hpq _ _)))⟩
theorem ok_lt : OpOk X.K M E (rI0 fun i j => .bl (decide (i < j))) (oI ltI) := ok_I fun i j => dec_of (PySem.W.Z.ltB_iff i j)
theorem ok_le : OpOk X.K M E (rI0 fun i j => .bl (decide (i ≤ j))) (oI leI) := ok_I fun i j => dec_of (PySem.W.Z.leB_iff i j)
theorem ok_gt : OpOk X.K M E (rI0 fun i j => .bl (decide (j < i))) (oI fun i j => ltI j i) := ok_I fun i j => dec_of (PySem.W.Z.ltB_iff j i)
theorem ok_ge : OpOk X.K M E (rI0 fun i j => .bl (decide (j ≤ i))) (oI fun i j => leI j i) := ok_I fun i j => dec_of (PySem.W.Z.leB_iff j i)
theorem se_eq {a b : Expr} {pos : Pos} {f g : EF} (ha : SE X M E a f) (hb : SE X M E b g) : SE X M E (.Compare a [.Eq] [b] pos) (eOp oEq f g) := se_cmp op_eq ok_eq ha hb (nomark _)
theorem se_ne {a b : Expr} {pos : Pos} {f g : EF} (ha : SE X M E a f) (hb : SE X M E b g) : SE X M E (.Compare a [.NotEq] [b] pos) (eOp oNe f g) := se_cmp op_ne ok_ne ha hb (nomark _)
theorem se_lt {a b : Expr} {pos : Pos} {f g : EF} (ha : SE X M E a f) (hb : SE X M E b g) : SE X M E (.Compare a [.Lt] [b] pos) (eOp (oI ltI) f g) := se_cmp op_lt ok_lt ha hb (nomark _)
theorem se_le {a b : Expr} {pos : Pos} {f g : EF} (ha : SE X M E a f) (hb : SE X M E b g) : SE X M E (.Compare a [.LtE] [b] pos) (eOp (oI leI) f g) := se_cmp op_le ok_le ha hb (nomark _)
theorem se_gt {a b : Expr} {pos : Pos} {f g : EF} (ha : SE X M E a f) (hb : SE X M E b g) : SE X M E (.Compare a [.Gt] [b] pos) (eOp (oI fun i j => ltI j i) f g) := se_cmp op_gt ok_gt ha hb (nomark _)
theorem se_add {a b : Expr} {pos : Pos} {f g : EF} (ha : SE X M E a f) (hb : SE X M E b g) : SE X M E (.BinOp a .Add b pos) (eOp oAdd f g) := se_op op_add ok_add ha hb
theorem se_sub {a b : Expr} {pos : Pos} {f g : EF} (ha : SE X M E a f) (hb : SE X M E b g) : SE X M E (.BinOp a .Sub b pos) (eOp oSub f g) := se_op op_sub ok_sub ha hb
theorem se_catS {a b : Expr} {pos : Pos} {f g : EF} (ha : SE X M E a f) (hb : SE X M E b g) : SE X M E (.BinOp a .Add b pos) (eOp oCatS f g) := se_op op_add_str ok_catS ha hb
/-- a sign in a text -/
def oInS : OF := fun x y S => match x, y with
  | .str [c], .str z => .ok (.bl (memN c z)) S
  | _, _ => .bad
def oNinS : OF := fun x y S => match x, y with
  | .str [c], .str z => .ok (.bl (!memN c z)) S
  | _, _ => .bad
theorem ok_inS : OpOk X.K M E (fun x y H Q => ∃ (c : Nat) (z : Str), x = .str ⟨#[c]⟩ ∧ y = .str z ∧ Q (.bl (decide (c ∈ z.cps.toList))) H) oInS := by
  intro r S H x y u v Q hx hy hs h
  unfold oInS at h
  split at h
  · rename_i c z
    exact ⟨c, _, rd_str.mp hx, rd_str.mp hy, Post.here h hs (rd_bl.mpr (by simp only [List.toList_toArray]; rw [dec_of memN_iff]))⟩
  · exact h.elim
theorem ok_ninS : OpOk X.K M E (fun x y H Q => ∃ (c : Nat) (z : Str), x = .str ⟨#[c]⟩ ∧ y = .str z ∧ Q (.bl (!decide (c ∈ z.cps.toList))) H) oNinS := by
  intro r S H x y u v Q hx hy hs h
  unfold oNinS at h
  split at h
  · rename_i c z
    exact ⟨c, _, rd_str.mp hx, rd_str.mp hy, Post.here h hs (rd_bl.mpr (by simp only [List.toList_toArray]; rw [dec_of memN_iff]))⟩
  · exact h.elim
theorem se_inS {a b : Expr} {pos : Pos} {f g : EF} (ha : SE X M E a f) (hb : SE X M E b g) (hm : behindInMarks .In b = false := by rfl) : SE X M E (.Compare a [.In] [b] pos) (eOp oInS f g) := se_cmp op_in_sign ok_inS ha hb hm
theorem se_ninS {a b : Expr} {pos : Pos} {f g : EF} (ha : SE X M E a f) (hb : SE X M E b g) (hm : behindInMarks .NotIn b = false := by rfl) : SE X M E (.Compare a [.NotIn] [b] pos) (eOp oNinS f g) := se_cmp op_notIn_sign ok_ninS ha hb hm
/-- a flat thing in a list of flat things -/
def flatD : D → Bool
  | .non => true
  | .bl _ => true
  | .int _ => true
  | .str _ => true
  | _ => false
def inD (x : D) : List D → Option Bool
  | [] => some false
  | y :: r => match eqD y x with
    | some true => match r.all flatD with
      | true => some true
      | false => none
    | some false => inD x r
    | none => none
def listOf (S : Sto) : D → Option (List D)
  | .ob i => match nth S i with
    | some (.lst ds) => some ds
    | _ => none
  | .kl ds => some ds
  | _ => none
theorem listOf_ok {K : PySem.W.Frag} {r : List Addr} {H : Hp} {S : Sto} {x : D} {u : V} {ds : List D} (h : listOf S x = some ds) (hx : RD K r H x u) (hs : RS K M r S H) : ∃ a xs, u = .ref a ∧ SqL K H a xs ∧ RDs K r H ds xs := by
  cases x <;> simp only [listOf] at h <;> try cases h
  · rename_i i
    rw [nth_eq] at h
    obtain ⟨a, h1, e⟩ := rd_mut.mp hx
    cases e2 : S[i]? with
    | none => rw [e2] at h; cases h
    | some o =>
      rw [e2] at h
      cases o with
      | lst ds' =>
        cases h
        obtain ⟨xs, h3, h4⟩ := hs.obj i a _ h1 e2
        exact ⟨a, xs, e, SqL.of h3, h4⟩
      | _ => cases h
  · obtain ⟨a, xs, e, h1, h2⟩ := rd_kl.mp hx
    exact ⟨a, xs, e, h1.sq, h2⟩
theorem flat_ok {K : PySem.W.Frag} {r : List Addr} {H : Hp} {x : D} {u : V} (h : flatD x = true) (hx : RD K r H x u) : flatV u = true := by
  cases x <;> simp only [flatD] at h <;> try cases h
  · rw [rd_non.mp hx]; rfl
  · rw [rd_bl.mp hx]; rfl
  · rw [rd_int.mp hx]; rfl
  · rw [rd_str.mp hx]; rfl
theorem flat_all {K : PySem.W.Frag} {r : List Addr} {H : Hp} : ∀ {ds : List D} {xs : List V}, ds.all flatD = true → RDs K r H ds xs → xs.all flatV = true
  | [], xs, _, h => by rw [rds_nil.mp h]; rfl
  | d :: ds, xs, h, q => by
    obtain ⟨v, vr, e, h1, h2⟩ := rds_cons.mp q
    subst e
    simp only [List.all_cons, Bool.and_eq_true] at h ⊢
    exact ⟨flat_ok h.1 h1, flat_all h.2 h2⟩
theorem eqD_flat {x y : D} {b : Bool} (h : eqD x y = some b) : flatD x = true ∧ flatD y = true := by
  cases x <;> cases y <;> simp [eqD, flatD] at h ⊢
theorem beq_str (a c : List Nat) : ((⟨a.toArray⟩ : Str) == (⟨c.toArray⟩ : Str)) = beqN a c := by
  cases e : beqN a c with
  | true => rw [beqN_iff.mp e]; simp
  | false =>
    refine beq_eq_false_iff_ne.mpr fun z => ?_
    have z' : a = c := by
      injection z with z
      exact List.toArray_inj z
    rw [beqN_iff.mpr z'] at e
    cases e
theorem eqD_eqV {K : PySem.W.Frag} {r : List Addr} {H : Hp} {x y : D} {u v : V} {b : Bool} (h : eqD x y = some b) (hx : RD K r H x u) (hy : RD K r H y v) : eqV u v = b := by
  cases x <;> cases y <;> simp only [eqD] at h <;> try cases h
  all_goals first
    | (rw [rd_non.mp hx, rd_non.mp hy]; rfl)
    | (rename_i a c; rw [rd_bl.mp hx, rd_bl.mp hy]; cases a <;> cases c <;> rfl)
    | (rename_i a c
       rw [rd_int.mp hx, rd_int.mp hy]
       show (a == c) = eqI a c
       cases e : eqI a c with
       | true => rw [eqI_iff.mp e]; simp
       | false => exact beq_eq_false_iff_ne.mpr fun z => by rw [eqI_iff.mpr z] at e; cases e)
    | (rename_i a c
       rw [rd_str.mp hx, rd_str.mp hy]
       exact beq_str a c)
    | (rw [rd_non.mp hx, rd_str.mp hy]; rfl)
    | (rw [rd_str.mp hx, rd_non.mp hy]; rfl)
    | (rw [rd_non.mp hx, rd_int.mp hy]; rfl)
    | (rw [rd_int.mp hx, rd_non.mp hy]; rfl)
    | (rw [rd_int.mp hx, rd_str.mp hy]; rfl)
    | (rw [rd_str.mp hx, rd_int.mp hy]; rfl)
theorem inD_ok {K : PySem.W.Frag} {r : List Addr} {H : Hp} {x : D} {u : V} (hx : RD K r H x u) (hf : flatD x = true) : ∀ {ds : List D} {xs : List V} {b : Bool}, inD x ds = some b → RDs K r H ds xs → inV u xs = b ∧ xs.all flatV = true
  | [], xs, b, h, q => by
    rw [rds_nil.mp q]
    cases h
    exact ⟨rfl, rfl⟩
  | d :: ds, xs, b, h, q => by
    obtain ⟨v, vr, e, h1, h2⟩ := rds_cons.mp q
    subst e
    unfold inD at h
    cases e1 : eqD d x with
    | none => rw [e1] at h; cases h
    | some c =>
      rw [e1] at h
      have z := eqD_eqV e1 h1 hx
      have fd := flat_ok (eqD_flat e1).1 h1
      cases c with
      | true =>
        simp only at h
        cases e2 : ds.all flatD with
        | false => rw [e2] at h; cases h
        | true =>
          rw [e2] at h
          cases h
          refine ⟨?_, by simp only [List.all_cons, fd, flat_all e2 h2, Bool.and_self]⟩
          show (eqV v u || inV u vr) = true
          rw [z]; rfl
      | false =>
        simp only at h
        obtain ⟨a1, a2⟩ := inD_ok hx hf h h2
        refine ⟨?_, by simp only [List.all_cons, fd, a2, Bool.and_self]⟩
        show (eqV v u || inV u vr) = b
        rw [z, a1]; rfl
def oInL (neg : Bool) : OF := fun x y S => match listOf S y with
  | some ds => match flatD x with
    | true => match inD x ds with
      | some b => .ok (.bl (match neg with | true => !b | false => b)) S
      | none => .bad
    | false => .bad
  | none => .bad
theorem ok_inL {neg : Bool} : OpOk X.K M E (rIn X.K neg) (oInL neg) := by
  intro r S H x y u v Q hx hy hs h
  unfold oInL at h
  cases e : listOf S y with
  | none => rw [e] at h; exact h.elim
  | some ds =>
    rw [e] at h
    simp only at h
    cases f : flatD x with
    | false => rw [f] at h; exact h.elim
    | true =>
      rw [f] at h
      simp only at h
      cases i : inD x ds with
      | none => rw [i] at h; exact h.elim
      | some b =>
        rw [i] at h
        obtain ⟨a, xs, e1, h1, h2⟩ := listOf_ok e hy hs
        obtain ⟨z1, z2⟩ := inD_ok hx f i h2
        refine ⟨a, xs, e1, .inl h1, flat_ok f hx, z2, ?_⟩
        rw [z1]
        cases neg <;> exact Post.here h hs (rd_bl.mpr rfl)
theorem se_inL {a b : Expr} {pos : Pos} {f g : EF} (ha : SE X M E a f) (hb : SE X M E b g) (hm : behindInMarks .In b = false := by rfl) : SE X M E (.Compare a [.In] [b] pos) (eOp (oInL false) f g) := se_cmp op_in_seq ok_inL ha hb hm
theorem se_ninL {a b : Expr} {pos : Pos} {f g : EF} (ha : SE X M E a f) (hb : SE X M E b g) (hm : behindInMarks .NotIn b = false := by rfl) : SE X M E (.Compare a [.NotIn] [b] pos) (eOp (oInL true) f g) := se_cmp op_notIn_seq ok_inL ha hb hm
/-- is None -/
def isNonD : D → Bool
  | .non => true
  | _ => false
def eIsN (f : EF) : EF := fun en S => (f en S).bind fun x S1 => .ok (.bl (isNonD x)) S1
theorem isNon_ok {K : PySem.W.Frag} {r : List Addr} {H : Hp} {x : D} {u : V} (hx : RD K r H x u) : decide (u = .non) = isNonD x := by
  cases x with
  | non => rw [rd_non.mp hx]; rfl
  | bl _ => rw [rd_bl.mp hx]; rfl
  | int _ => rw [rd_int.mp hx]; rfl
  | str _ => rw [rd_str.mp hx]; rfl
  | tup _ => obtain ⟨a, xs, e, _⟩ := rd_tup.mp hx; rw [e]; rfl
  | ob _ => obtain ⟨a, _, e⟩ := rd_mut.mp hx; rw [e]; rfl
  | kl _ => obtain ⟨a, xs, e, _⟩ := rd_kl.mp hx; rw [e]; rfl
theorem se_isN {a : Expr} {j : Nat} {pos pos' : Pos} {f : EF} (ha : SE X M E a f) : SE X M E (.Compare a [.Is] [.Constant .none j pos'] pos) (eIsN f) := by
  obtain ⟨ta, pa, qa⟩ := ha
  refine ⟨_, pe_cmp (pc_isN pa) rfl, fun r S en σ H Q he hs h => ?_⟩
  refine qa r S en σ H _ he hs (Post.bind h fun x S1 r1 H1 u _ g1 q1 s1 h1 => ?_)
  exact Post.here h1 s1 (rd_bl.mpr (by rw [isNon_ok q1]))
/-- a < b < c -/
def eChain (o o' : OF) (f g k : EF) : EF := fun en S => (f en S).bind fun x S1 => (g en S1).bind fun y S2 => (o x y S2).bind fun z S3 => match z with
  | .bl true => (k en S3).bind fun w S4 => o' y w S4
  | .bl false => .ok (.bl false) S3
  | _ => .bad
theorem tChain_ok {t t' : R2} {o o' : OF} {ta tb tc : TE} {f g k : EF} (ho : OpOk X.K M E t o) (ho' : OpOk X.K M E t' o')
    (ha : ∀ r S en σ H Q, RE X.K r H en σ → RS X.K M r S H → Post (RD X.K) X.K M r H Q E (f en S) → ta σ H Q)
    (hb : ∀ r S en σ H Q, RE X.K r H en σ → RS X.K M r S H → Post (RD X.K) X.K M r H Q E (g en S) → tb σ H Q)
    (hc : ∀ r S en σ H Q, RE X.K r H en σ → RS X.K M r S H → Post (RD X.K) X.K M r H Q E (k en S) → tc σ H Q) :
    ∀ r S en σ H Q, RE X.K r H en σ → RS X.K M r S H → Post (RD X.K) X.K M r H Q E (eChain o o' f g k en S) → tChain t t' ta tb tc σ H Q := by
  intro r S en σ H Q he hs h
  refine ha r S en σ H _ he hs (Post.bind h fun x S1 r1 H1 u _ g1 q1 s1 h1 => ?_)
  refine hb r1 S1 en σ H1 _ (he.mono g1) s1 (Post.bind h1 fun y S2 r2 H2 v _ g2 q2 s2 h2 => ?_)
  refine ho r2 S2 H2 x y u v _ (RD.mono g2 _ _ q1) q2 s2 (Post.bind h2 fun z S3 r3 H3 b _ g3 q3 s3 h3 => ?_)
  cases z with
  | bl b =>
    refine ⟨b, rd_bl.mp q3, ?_⟩
    cases b with
    | true =>
      rw [if_pos rfl]
      refine hc r3 S3 en σ H3 _ (((he.mono g1).mono g2).mono g3) s3 (Post.bind h3 fun w S4 r4 H4 c _ g4 q4 s4 h4 => ?_)
      exact ho' r4 S4 H4 y w v c Q (RD.mono (g3.trans g4) _ _ q2) q4 s4 h4
    | false =>
      rw [if_neg Bool.false_ne_true]
      exact Post.here h3 s3 (rd_bl.mpr rfl)
  | _ => exact h3.elim
theorem se_chainLe {a b c : Expr} {pos : Pos} {f g k : EF} (ha : SE X M E a f) (hb : SE X M E b g) (hc : SE X M E c k) (hm : lastMarks [.LtE, .LtE] [b, c] = false := by with_unfolding_all rfl) : SE X M E (.Compare a [.LtE, .LtE] [b, c] pos) (eChain (oI leI) (oI leI) f g k) := by
  obtain ⟨ta, pa, qa⟩ := ha
  obtain ⟨tb, pb, qb⟩ := hb
  obtain ⟨tc, pc, qc⟩ := hc
  exact ⟨_, pe_chain op_le op_le pa pb pc hm, tChain_ok ok_le ok_le qa qb qc⟩
theorem st_chainLe {a b c : Expr} {pos : Pos} {f g k : EF} (ha : SE X M E a f) (hb : SE X M E b g) (hc : SE X M E c k) (hm : lastMarks [.LtE, .LtE] [b, c] = false := by with_unfolding_all rfl) : ST X M E (.Compare a [.LtE, .LtE] [b, c] pos) (bT (eChain (oI leI) (oI leI) f g k)) := by
  obtain ⟨ta, pa, qa⟩ := ha
  obtain ⟨tb, pb, qb⟩ := hb
  obtain ⟨tc, pc, qc⟩ := hc
  exact ⟨_, pt_chain op_le op_le pa pb pc hm, tB_ok (tChain_ok ok_le ok_le qa qb qc)⟩
/-! ### and, or, not, a if t else b -/
def bAnd (f g : BF) : BF := fun en S => (f en S).bind fun b S1 => match b with
  | true => g en S1
  | false => .ok false S1
def bOr (f g : BF) : BF := fun en S => (f en S).bind fun b S1 => match b with
  | true => .ok true S1
  | false => g en S1
def bNot (f : BF) : BF := fun en S => (f en S).bind fun b S1 => .ok (!b) S1
/-- and, or whatever their whole is -/
structure SW (X : Cx) (M : Mo) (E : XK) (e : Expr) (f : BF) : Prop where
  ex : ∃ te, PW X e te ∧ ∀ r S en σ H Q, RE X.K r H en σ → RS X.K M r S H → Post RB X.K M r H Q E (f en S) → te σ H Q
theorem SW.st {e : Expr} {f : BF} (h : SW X M E e f) : ST X M E e f := let ⟨t, p, q⟩ := h; ⟨t, p.pt, q⟩
theorem sw_and1 {a : Expr} {pos : Pos} {f : BF} (h : ST X M E a f) : SW X M E (.BoolOp .And [a] pos) f := let ⟨t, p, q⟩ := h; ⟨t, pw_and1 p, q⟩
theorem sw_or1 {a : Expr} {pos : Pos} {f : BF} (h : ST X M E a f) : SW X M E (.BoolOp .Or [a] pos) f := let ⟨t, p, q⟩ := h; ⟨t, pw_or1 p, q⟩
theorem sw_and {a b : Expr} {rest : List Expr} {pos : Pos} {f g : BF} (ha : ST X M E a f) (hb : SW X M E (.BoolOp .And (b :: rest) pos) g) : SW X M E (.BoolOp .And (a :: b :: rest) pos) (bAnd f g) := by
  obtain ⟨ta, pa, qa⟩ := ha
  obtain ⟨tb, pb, qb⟩ := hb
  refine ⟨_, pw_and pa pb, fun r S en σ H Q he hs h => ?_⟩
  refine qa r S en σ H _ he hs (Post.bind h fun x S1 r1 H1 u _ g1 q1 s1 h1 => ?_)
  have e : x = u := q1
  subst e
  cases x with
  | true => rw [if_pos rfl]; exact qb r1 S1 en σ H1 Q (he.mono g1) s1 h1
  | false => rw [if_neg Bool.false_ne_true]; exact Post.here h1 s1 rfl
theorem sw_or {a b : Expr} {rest : List Expr} {pos : Pos} {f g : BF} (ha : ST X M E a f) (hb : SW X M E (.BoolOp .Or (b :: rest) pos) g) : SW X M E (.BoolOp .Or (a :: b :: rest) pos) (bOr f g) := by
  obtain ⟨ta, pa, qa⟩ := ha
  obtain ⟨tb, pb, qb⟩ := hb
  refine ⟨_, pw_or pa pb, fun r S en σ H Q he hs h => ?_⟩
  refine qa r S en σ H _ he hs (Post.bind h fun x S1 r1 H1 u _ g1 q1 s1 h1 => ?_)
  have e : x = u := q1
  subst e
  cases x with
  | true => rw [if_pos rfl]; exact Post.here h1 s1 rfl
  | false => rw [if_neg Bool.false_ne_true]; exact qb r1 S1 en σ H1 Q (he.mono g1) s1 h1
theorem st_not {a : Expr} {pos : Pos} {f : BF} (ha : ST X M E a f) : ST X M E (.UnaryOp .Not a pos) (bNot f) := by
  obtain ⟨ta, pa, qa⟩ := ha
  refine ⟨_, pt_not pa, fun r S en σ H Q he hs h => ?_⟩
  refine qa r S en σ H _ he hs (Post.bind h fun x S1 r1 H1 u _ g1 q1 s1 h1 => ?_)
  have e : x = u := q1
  subst e
  exact Post.here h1 s1 rfl
/-- .. as values (bools) -/
def eAnd (f g : EF) : EF := fun en S => (f en S).bind fun b S1 => match b with
  | .bl true => g en S1
  | .bl false => .ok (.bl false) S1
  | _ => .bad
def eOr (f g : EF) : EF := fun en S => (f en S).bind fun b S1 => match b with
  | .bl true => .ok (.bl true) S1
  | .bl false => g en S1
  | _ => .bad
def eNot (f : EF) : EF := fun en S => (f en S).bind fun b S1 => match b with
  | .bl b => .ok (.bl (!b)) S1
  | _ => .bad
theorem se_one {op} {a : Expr} {pos : Pos} {f : EF} (h : SE X M E a f) : SE X M E (.BoolOp op [a] pos) f := let ⟨t, p, q⟩ := h; ⟨t, pe_one p, q⟩
theorem se_and {a b : Expr} {rest : List Expr} {pos : Pos} {f g : EF} (ha : SE X M E a f) (hb : SE X M E (.BoolOp .And (b :: rest) pos) g) : SE X M E (.BoolOp .And (a :: b :: rest) pos) (eAnd f g) := by
  obtain ⟨ta, pa, qa⟩ := ha
  obtain ⟨tb, pb, qb⟩ := hb
  refine ⟨_, pe_and pa pb, fun r S en σ H Q he hs h => ?_⟩
  refine qa r S en σ H _ he hs (Post.bind h fun x S1 r1 H1 u _ g1 q1 s1 h1 => ?_)
  cases x with
  | bl b =>
    refine ⟨b, rd_bl.mp q1, ?_⟩
    cases b with
    | true => rw [if_pos rfl]; exact qb r1 S1 en σ H1 Q (he.mono g1) s1 h1
    | false => rw [if_neg Bool.false_ne_true]; exact Post.here h1 s1 (rd_bl.mpr rfl)
  | _ => exact h1.elim
theorem se_or {a b : Expr} {rest : List Expr} {pos : Pos} {f g : EF} (ha : SE X M E a f) (hb : SE X M E (.BoolOp .Or (b :: rest) pos) g) : SE X M E (.BoolOp .Or (a :: b :: rest) pos) (eOr f g) := by
  obtain ⟨ta, pa, qa⟩ := ha
  obtain ⟨tb, pb, qb⟩ := hb
  refine ⟨_, pe_or pa pb, fun r S en σ H Q he hs h => ?_⟩
  refine qa r S en σ H _ he hs (Post.bind h fun x S1 r1 H1 u _ g1 q1 s1 h1 => ?_)
  cases x with
  | bl b =>
    refine ⟨b, rd_bl.mp q1, ?_⟩
    cases b with
    | true => rw [if_pos rfl]; exact Post.here h1 s1 (rd_bl.mpr rfl)
    | false => rw [if_neg Bool.false_ne_true]; exact qb r1 S1 en σ H1 Q (he.mono g1) s1 h1
  | _ => exact h1.elim
theorem se_not {a : Expr} {pos : Pos} {f : EF} (ha : SE X M E a f) : SE X M E (.UnaryOp .Not a pos) (eNot f) := by
  obtain ⟨ta, pa, qa⟩ := ha
  refine ⟨_, pe_not pa, fun r S en σ H Q he hs h => ?_⟩
  refine qa r S en σ H _ he hs (Post.bind h fun x S1 r1 H1 u _ g1 q1 s1 h1 => ?_)
  cases x with
  | bl b => exact ⟨b, rd_bl.mp q1, Post.here h1 s1 (rd_bl.mpr rfl)⟩
  | _ => exact h1.elim
def eIf (c : BF) (f g : EF) : EF := fun en S => (c en S).bind fun b S1 => match b with
  | true => f en S1
  | false => g en S1
theorem se_if {c a b : Expr} {pos : Pos} {k : BF} {f g : EF} (hc : ST X M E c k) (ha : SE X M E a f) (hb : SE X M E b g) : SE X M E (.IfExp c a b pos) (eIf k f g) := by
  obtain ⟨tc, pc, qc⟩ := hc
  obtain ⟨ta, pa, qa⟩ := ha
  obtain ⟨tb, pb, qb⟩ := hb
  refine ⟨_, pe_ifExp pc pa pb, fun r S en σ H Q he hs h => ?_⟩
  refine qc r S en σ H _ he hs (Post.bind h fun x S1 r1 H1 u _ g1 q1 s1 h1 => ?_)
  have e : x = u := q1
  subst e
  cases x with
  | true => rw [if_pos rfl]; exact qa r1 S1 en σ H1 Q (he.mono g1) s1 h1
  | false => rw [if_neg Bool.false_ne_true]; exact qb r1 S1 en σ H1 Q (he.mono g1) s1 h1
end
end Kv

/-! Subscripts, displays, calls. -/
namespace Kv
open PySem PySem.Spec PyProof.Rows L2
section
variable {X : Cx} {M : Mo} {E : XK}
/-! ### subscripts -/
def ixI (n : Nat) (i : Int) : Option Nat := match i with
  | .ofNat k => match Nat.blt k n with
    | true => some k
    | false => none
  | .negSucc k => match Nat.blt k n with
    | true => some (n - (k + 1))
    | false => none
theorem ixI_ok {n : Nat} {i : Int} {k : Nat} (h : ixI n i = some k) : ixN n i = some k := by
  cases i with
  | ofNat j =>
    simp only [ixI] at h
    cases e : Nat.blt j n with
    | false => rw [e] at h; cases h
    | true =>
      rw [e] at h
      obtain rfl : j = k := Option.some.inj h
      have hl : j < n := Nat.le_of_ble_eq_true e
      unfold ixN
      rw [if_pos (show (0 : Int) ≤ Int.ofNat j from Int.natCast_nonneg j), if_pos (show (Int.ofNat j) < (n : Int) from Int.ofNat_lt.mpr hl)]
      rfl
  | negSucc j =>
    simp only [ixI] at h
    cases e : Nat.blt j n with
    | false => rw [e] at h; cases h
    | true =>
      rw [e] at h
      cases h
      have hl : j < n := Nat.le_of_ble_eq_true e
      unfold ixN
      rw [if_neg (show ¬ (0 : Int) ≤ Int.negSucc j by omega), if_pos (show -(n : Int) ≤ Int.negSucc j by omega)]
      congr 1
      omega
theorem atI_of {a : Type} {xs : List a} {i : Int} {k : Nat} {v : a} (h : ixI xs.length i = some k) (hv : xs[k]? = some v) : atI xs i = some v := by
  unfold atI
  rw [ixI_ok h]
  exact hv
def oIxT : OF := fun x y S => match x, y with
  | .tup ds, .int i => match ixI ds.length i with
    | some k => match nth ds k with
      | some d => .ok d S
      | none => .bad
    | none => .bad
  | _, _ => .bad
theorem ok_ixT : OpOk X.K M E (rIxT X.K) oIxT := by
  intro r S H x y u v Q hx hy hs h
  unfold oIxT at h
  split at h
  · rename_i ds i
    obtain ⟨a, xs, e, h1, h2⟩ := rd_tup.mp hx
    cases e1 : ixI ds.length i with
    | none => rw [e1] at h; exact h.elim
    | some k =>
      rw [e1] at h
      simp only at h
      rw [nth_eq] at h
      cases e2 : ds[k]? with
      | none => rw [e2] at h; exact h.elim
      | some d =>
        rw [e2] at h
        obtain ⟨w, h3, h4⟩ := h2.get e2
        exact ⟨a, xs, i, w, e, rd_int.mp hy, SqT.of h1, atI_of (by rw [← h2.length]; exact e1) h3, Post.here h hs h4⟩
  · exact h.elim
theorem se_ixT {a b : Expr} {pos : Pos} {f g : EF} (ha : SE X M E a f) (hb : SE X M E b g) (hs : PlainIx b := by intro _ _; rfl) : SE X M E (.Subscript a b pos) (eOp oIxT f g) := by
  obtain ⟨ta, pa, qa⟩ := ha
  obtain ⟨tb, pb, qb⟩ := hb
  exact ⟨_, pe_ix ix_tup pa pb hs, tOp_ok ok_ixT qa qb⟩
def oIxL : OF := fun x y S => match listOf S x, y with
  | some ds, .int i => match ixI ds.length i with
    | some k => match nth ds k with
      | some d => .ok d S
      | none => .bad
    | none => .bad
  | _, _ => .bad
theorem ok_ixL : OpOk X.K M E (rIxL X.K) oIxL := by
  intro r S H x y u v Q hx hy hs h
  unfold oIxL at h
  split at h
  · rename_i ds i e0
    obtain ⟨a, xs, e, h1, h2⟩ := listOf_ok e0 hx hs
    cases e1 : ixI ds.length i with
    | none => rw [e1] at h; exact h.elim
    | some k =>
      rw [e1] at h
      simp only at h
      rw [nth_eq] at h
      cases e2 : ds[k]? with
      | none => rw [e2] at h; exact h.elim
      | some d =>
        rw [e2] at h
        obtain ⟨w, h3, h4⟩ := h2.get e2
        exact ⟨a, xs, i, w, e, rd_int.mp hy, h1, atI_of (by rw [← h2.length]; exact e1) h3, Post.here h hs h4⟩
  · exact h.elim
theorem se_ixL {a b : Expr} {pos : Pos} {f g : EF} (ha : SE X M E a f) (hb : SE X M E b g) (hs : PlainIx b := by intro _ _; rfl) : SE X M E (.Subscript a b pos) (eOp oIxL f g) := by
  obtain ⟨ta, pa, qa⟩ := ha
  obtain ⟨tb, pb, qb⟩ := hb
  exact ⟨_, pe_ix ix_list pa pb hs, tOp_ok ok_ixL qa qb⟩
def oIxS : OF := fun x y S => match x, y with
  | .str s, .int i => match Nat.ble s.length lim with
    | true => match ixI s.length i with
      | some k => match nth s k with
        | some c => .ok (.str [c]) S
        | none => .bad
      | none => .bad
    | false => .bad
  | _, _ => .bad
theorem ok_ixS : OpOk X.K M E rIxS oIxS := by
  intro r S H x y u v Q hx hy hs h
  unfold oIxS at h
  split at h
  · rename_i s i
    cases e0 : Nat.ble s.length lim with
    | false => rw [e0] at h; exact h.elim
    | true =>
      rw [e0] at h
      simp only at h
      cases e1 : ixI s.length i with
      | none => rw [e1] at h; exact h.elim
      | some k =>
        rw [e1] at h
        simp only at h
        rw [nth_eq] at h
        cases e2 : s[k]? with
        | none => rw [e2] at h; exact h.elim
        | some c =>
          rw [e2] at h
          refine ⟨_, i, c, rd_str.mp hx, rd_int.mp hy, by rw [str_len]; exact lim_le e0, ?_, Post.here h hs (rd_str.mpr rfl)⟩
          show atI s.toArray.toList i = some c
          rw [List.toList_toArray]
          exact atI_of e1 e2
  · exact h.elim
theorem se_ixS {a b : Expr} {pos : Pos} {f g : EF} (ha : SE X M E a f) (hb : SE X M E b g) (hs : PlainIx b := by intro _ _; rfl) : SE X M E (.Subscript a b pos) (eOp oIxS f g) := by
  obtain ⟨ta, pa, qa⟩ := ha
  obtain ⟨tb, pb, qb⟩ := hb
  exact ⟨_, pe_ix ix_str pa pb hs, tOp_ok ok_ixS qa qb⟩

/-! ### slices: t[k:], k written; s[a:b], s[:b] -/
def eSlT (k : Nat) (f : EF) : EF := fun en S => (f en S).bind fun x S1 => match x with
  | .tup (d :: ds) => match k with
    | 0 => .bad
    | n + 1 => .ok (.tup (ds.drop n)) S1
  | _ => .bad
theorem cutV_drop (xs : List V) (k : Nat) : cutV xs (some (k : Int)) none = xs.drop k := by
  unfold cutV
  rw [HT.sIx_nat, HT.sIx_none]
  by_cases h : k ≤ xs.length
  · rw [Nat.min_eq_left h, List.take_of_length_le (by rw [List.length_drop]; exact Nat.le_refl _)]
  · have h' : xs.length ≤ k := Nat.le_of_not_le h
    rw [Nat.min_eq_right h', Nat.sub_self, List.take_zero, List.drop_of_length_le h']
theorem se_slT {a : Expr} {i : Int} {k j : Nat} {p p2 pos : Pos} {f : EF} (ha : SE X M E a f) (hi : i = (k : Int) := by rfl) : SE X M E (.Subscript a (.Slice (some (.Constant (.int i) j p)) none none p2) pos) (eSlT k f) := by
  subst hi
  obtain ⟨ta, pa, qa⟩ := ha
  refine ⟨_, pe_slice sl_tup pa (po_some pe_int) po_none, fun r S en σ H Q he hs h => ?_⟩
  refine qa r S en σ H _ he hs (Post.bind h fun x S1 r1 H1 u _ g1 q1 s1 h1 => ?_)
  split at h1
  · rename_i d ds
    cases k with
    | zero => exact h1.elim
    | succ n =>
      simp only at h1
      obtain ⟨a, xs, e, h2, h3⟩ := rd_tup.mp q1
      obtain ⟨v, vr, e2, h4, h5⟩ := rds_cons.mp h3
      subst e2
      refine ⟨_, rfl, a, v :: vr, e, SqT.of h2, ?_⟩
      have ec : cutV (v :: vr) (some ((n + 1 : Nat) : Int)) none = vr.drop n := cutV_drop _ _
      have fin : ∀ p : Addr, H1 p = none → Q (.ref p) (upd H1 p (.tup (cutV (v :: vr) (some ((n + 1 : Nat) : Int)) none))) := fun p hp => by
        rw [ec]
        have l := Leaves.new (M := M) (o := .tup (vr.drop n)) hp
        exact h1 r1 _ _ l.grow (rd_tup.mpr ⟨p, _, rfl, upd_same, RDs.mono l.grow _ _ (h5.drop n)⟩) (s1.leaves l)
      refine ⟨fun z => ?_, fin⟩
      have z1 := z.1
      rw [HT.sIx_nat, List.length_cons] at z1
      omega
  · exact h1.elim
end
end Kv

/-! Slices of texts, displays, calls of built-ins. -/
namespace Kv
open PySem PySem.Spec PyProof.Rows L2
def cutN (s : List Nat) (a b : Nat) : List Nat := (s.drop a).take (b - a)
theorem cutN_ok (s : List Nat) (a b : Nat) : cutS ⟨s.toArray⟩ (some (a : Int)) (some (b : Int)) = ⟨(cutN s a b).toArray⟩ := by
  unfold cutS cutN
  rw [str_len, HT.sIx_nat, HT.sIx_nat]
  simp only [List.toList_toArray]
  congr 2
  by_cases ha : a ≤ s.length
  · rw [Nat.min_eq_left ha]
    by_cases hb : b ≤ s.length
    · rw [Nat.min_eq_left hb]
    · have hb' : s.length ≤ b := Nat.le_of_not_le hb
      rw [Nat.min_eq_right hb', List.take_of_length_le (by rw [List.length_drop]; exact Nat.le_refl _), List.take_of_length_le (by rw [List.length_drop]; omega)]
  · have ha' : s.length ≤ a := Nat.le_of_not_le ha
    rw [Nat.min_eq_right ha', List.drop_of_length_le (Nat.le_refl _), List.drop_of_length_le ha']
    simp
theorem cutN_ok0 (s : List Nat) (b : Nat) : cutS ⟨s.toArray⟩ none (some (b : Int)) = ⟨(cutN s 0 b).toArray⟩ := by
  rw [← cutN_ok]
  unfold cutS
  rw [HT.sIx_none]
  have e : HT.sIx (⟨s.toArray⟩ : Str).length 0 (some ((0 : Nat) : Int)) = 0 := by rw [HT.sIx_nat]; simp
  rw [e]
section
variable {X : Cx} {M : Mo} {E : XK}
def natOf : D → Option Nat
  | .int i => match i with
    | .ofNat a => some a
    | .negSucc _ => none
  | _ => none
theorem natOf_ok {K : PySem.W.Frag} {r : List Addr} {H : Hp} {x : D} {u : V} {n : Nat} (h : natOf x = some n) (hx : RD K r H x u) : u = .int (n : Int) := by
  cases x <;> simp only [natOf] at h <;> try cases h
  rename_i i
  cases i with
  | ofNat a => cases h; exact rd_int.mp hx
  | negSucc a => cases h
abbrev NF := En → Sto → Ans Nat
def nE (f : EF) : NF := fun en S => (f en S).bind fun x S1 => match natOf x with
  | some n => .ok n S1
  | none => .bad
def n0 : NF := fun _ S => .ok 0 S
structure SN (X : Cx) (M : Mo) (E : XK) (e : Option Expr) (lo : Bool) (f : NF) : Prop where
  ex : ∃ te, PO X e te ∧ ∀ r S en σ H Q, RE X.K r H en σ → RS X.K M r S H → Post (fun (_ : List Addr) (_ : Hp) (n : Nat) (o : Option Int) => if lo then o = none ∧ n = 0 else o = some (n : Int)) X.K M r H Q E (f en S) → te σ H Q
theorem sn_some {e : Expr} {f : EF} (h : SE X M E e f) : SN X M E (some e) false (nE f) := by
  obtain ⟨t, p, q⟩ := h
  refine ⟨_, po_some p, fun r S en σ H Q he hs h => ?_⟩
  refine q r S en σ H _ he hs (Post.bind h fun x S1 r1 H1 u _ g1 q1 s1 h1 => ?_)
  cases e : natOf x with
  | none => rw [e] at h1; exact h1.elim
  | some n =>
    rw [e] at h1
    exact ⟨_, natOf_ok e q1, Post.here h1 s1 rfl⟩
theorem sn_none : SN X M E none true n0 := ⟨_, po_none, fun r S en σ H Q he hs h => Post.here h hs ⟨rfl, rfl⟩⟩
def eSlS (f : EF) (lo hi : NF) : EF := fun en S => (f en S).bind fun x S1 => match x with
  | .str s => match Nat.ble s.length lim with
    | true => (lo en S1).bind fun a S2 => (hi en S2).bind fun b S3 => .ok (.str (cutN s a b)) S3
    | false => .bad
  | _ => .bad
theorem se_slS {a : Expr} {b c : Option Expr} {lo : Bool} {p2 pos : Pos} {f : EF} {g k : NF} (ha : SE X M E a f) (hb : SN X M E b lo g) (hc : SN X M E c false k) : SE X M E (.Subscript a (.Slice b c none p2) pos) (eSlS f g k) := by
  obtain ⟨ta, pa, qa⟩ := ha
  obtain ⟨tb, pb, qb⟩ := hb
  obtain ⟨tc, pc, qc⟩ := hc
  refine ⟨_, pe_slice sl_str pa pb pc, fun r S en σ H Q he hs h => ?_⟩
  refine qa r S en σ H _ he hs (Post.bind h fun x S1 r1 H1 u _ g1 q1 s1 h1 => ?_)
  cases x with
  | str s =>
    simp only at h1
    cases e : Nat.ble s.length lim with
    | false => rw [e] at h1; exact h1.elim
    | true =>
      rw [e] at h1
      refine qb r1 S1 en σ H1 _ (he.mono g1) s1 (Post.bind h1 fun y S2 r2 H2 v _ g2 q2 s2 h2 => ?_)
      refine qc r2 S2 en σ H2 _ ((he.mono g1).mono g2) s2 (Post.bind h2 fun z S3 r3 H3 w _ g3 q3 s3 h3 => ?_)
      have e3 : w = some (z : Int) := q3
      subst e3
      refine ⟨⟨s.toArray⟩, rd_str.mp q1, by rw [str_len]; exact lim_le e, ?_⟩
      refine Post.here h3 s3 (rd_str.mpr (congrArg V.str ?_))
      cases lo with
      | true =>
        obtain ⟨e4, e5⟩ := (show v = none ∧ y = 0 from q2)
        subst e4 e5
        exact cutN_ok0 s z
      | false =>
        have e4 : v = some (y : Int) := q2
        subst e4
        exact cutN_ok s y z
  | _ => exact h1.elim

/-! ### arguments, displays -/
def aNil : AF := fun _ S => .ok [] S
def aCons (f : EF) (g : AF) : AF := fun en S => (f en S).bind fun x S1 => (g en S1).bind fun xs S2 => .ok (x :: xs) S2
theorem sa_nil : SA X M E [] aNil := ⟨⟨_, pa_nil, fun r S en σ H Q he hs h => Post.here h hs (rds_nil.mpr rfl)⟩, fun en S ds S' h => by cases h; rfl⟩
theorem sa_cons {e : Expr} {es : List Expr} {f : EF} {g : AF} (ha : SE X M E e f) (hr : SA X M E es g) (hs : starEach (e :: es) X.env = (false, eval e X.env) :: starEach es X.env := by rfl) : SA X M E (e :: es) (aCons f g) := by
  obtain ⟨ta, pa, qa⟩ := ha
  obtain ⟨⟨tb, pb, qb⟩, hl⟩ := hr
  refine ⟨⟨_, pa_cons pa pb hs, fun r S en σ H Q he hs h => ?_⟩, fun en S ds S' h => ?_⟩
  · refine qa r S en σ H _ he hs (Post.bind h fun x S1 r1 H1 u _ g1 q1 s1 h1 => ?_)
    refine qb r1 S1 en σ H1 _ (he.mono g1) s1 (Post.bind h1 fun y S2 r2 H2 v _ g2 q2 s2 h2 => ?_)
    exact Post.here h2 s2 (rds_cons.mpr ⟨u, v, rfl, RD.mono g2 _ _ q1, q2⟩)
  · unfold aCons at h
    cases e1 : f en S with
    | ok x S1 =>
      rw [e1] at h
      simp only [Ans.bind] at h
      cases e2 : g en S1 with
      | ok xs S2 =>
        rw [e2] at h
        cases h
        rw [List.length_cons, List.length_cons, hl en S1 xs _ e2]
      | exc c S2 => rw [e2] at h; cases h
      | bad => rw [e2] at h; cases h
    | exc c S1 => rw [e1] at h; cases h
    | bad => rw [e1] at h; cases h
def eTup (g : AF) : EF := fun en S => (g en S).bind fun ds S1 => match Nat.ble ds.length lim with
  | true => .ok (.tup ds) S1
  | false => .bad
theorem se_tup {es : List Expr} {x1 : Nat} {pos : Pos} {g : AF} (h : SA X M E es g) : SE X M E (.Tuple es x1 pos) (eTup g) := by
  obtain ⟨⟨t, p, q⟩, hl⟩ := h
  refine ⟨_, pe_tup p, fun r S en σ H Q he hs h => ?_⟩
  refine q r S en σ H _ he hs (Post.bind h fun ds S1 r1 H1 vs _ g1 q1 s1 h1 => ?_)
  cases e : Nat.ble ds.length lim with
  | false => rw [e] at h1; exact h1.elim
  | true =>
    rw [e] at h1
    refine ⟨by rw [← q1.length]; exact lim_le e, fun p hp => ?_⟩
    have l := Leaves.new (M := M) (o := .tup vs) hp
    exact h1 r1 _ _ l.grow (rd_tup.mpr ⟨p, _, rfl, upd_same, RDs.mono l.grow _ _ q1⟩) (s1.leaves l)
def eLst (g : AF) : EF := fun en S => (g en S).bind fun ds S1 => match Nat.ble ds.length lim with
  | true => .ok (.ob S1.length) (S1 ++ [.lst ds])
  | false => .bad
/-- a new list -/
theorem new_lst {r : List Addr} {S : Sto} {H : Hp} {ds : List D} {vs : List V} {Q : VK} (hs : RS X.K M r S H) (q : RDs X.K r H ds vs) (h : Post (RD X.K) X.K M r H Q E (.ok (.ob S.length) (S ++ [.lst ds]))) : ∀ p, H p = none → Q (.ref p) (upd H p (.lst vs)) := fun p hp => by
  obtain ⟨s2, g2⟩ := hs.push (u := .lst vs) (o := .lst ds) hp fun r' H' g e => ⟨vs, e, RDs.mono g _ _ q⟩
  refine h _ _ _ g2 (rd_mut.mpr ⟨p, ?_, rfl⟩) s2
  rw [← hs.len, List.getElem?_append_right (Nat.le_refl _)]
  simp
theorem se_lst {es : List Expr} {pos : Pos} {g : AF} (h : SA X M E es g) : SE X M E (.List es pos) (eLst g) := by
  obtain ⟨⟨t, p, q⟩, hl⟩ := h
  refine ⟨_, pe_lst p, fun r S en σ H Q he hs h => ?_⟩
  refine q r S en σ H _ he hs (Post.bind h fun ds S1 r1 H1 vs _ g1 q1 s1 h1 => ?_)
  cases e : Nat.ble ds.length lim with
  | false => rw [e] at h1; exact h1.elim
  | true =>
    rw [e] at h1
    exact ⟨by rw [← q1.length]; exact lim_le e, new_lst s1 q1 h1⟩

/-! ### calls of built-ins -/
abbrev CF := List D → Sto → Ans D
def CallOk (K : PySem.W.Frag) (M : Mo) (E : XK) (t : List V → Hp → VK → Prop) (o : CF) : Prop := ∀ (r : List Addr) (S : Sto) (H : Hp) (ds : List D) (vs : List V) (Q : VK), RDs K r H ds vs → RS K M r S H → Post (RD K) K M r H Q E (o ds S) → t vs H Q
def eCB (o : CF) (g : AF) : EF := fun en S => (g en S).bind fun ds S1 => o ds S1
theorem tCB_ok {t : List V → Hp → VK → Prop} {o : CF} {ta : TA} {g : AF} (ho : CallOk X.K M E t o)
    (ha : ∀ r S en σ H Q, RE X.K r H en σ → RS X.K M r S H → Post (RDs X.K) X.K M r H Q E (g en S) → ta σ H Q) :
    ∀ r S en σ H Q, RE X.K r H en σ → RS X.K M r S H → Post (RD X.K) X.K M r H Q E (eCB o g en S) → tCB t ta σ H Q := by
  intro r S en σ H Q he hs h
  refine ha r S en σ H _ he hs (Post.bind h fun ds S1 r1 H1 vs _ g1 q1 s1 h1 => ?_)
  exact ho r1 S1 H1 ds vs Q q1 s1 h1
theorem se_callB {x : Str} {p pos : Pos} {e : Expr} {es : List Expr} {id : String} {t : List V → Hp → VK → Prop} {o : CF} {g : AF} (hc : CallR X (.builtin id) t) (ho : CallOk X.K M E t o) (hg : Gl X x) (hm : X.mg x = none) (hv : bootBuiltins x = some (.builtin id)) (ha : SA X M E (e :: es) g) (hn : x ≠ "__name__" := by decide) (hdb : (x == ("__debug__" : Str)) = false := by decide)
    (he : starEach (e :: es) X.env = (false, eval e X.env) :: starEach es X.env := by rfl) (hpl : (backTo pos (starEach es X.env)).any (·.1) = false := by rfl) : SE X M E (.Call (.Name x p) (e :: es) [] pos) (eCB o g) := by
  obtain ⟨⟨t, pa, q⟩, hl⟩ := ha
  exact ⟨_, pe_callB hc hg hm hv pa hn hdb he hpl, tCB_ok ho q⟩
theorem se_callTy {x : Str} {p pos : Pos} {e : Expr} {es : List Expr} {T : String} {t : List V → Hp → VK → Prop} {o : CF} {g : AF} (hc : CallR X (.type T) t) (ho : CallOk X.K M E t o) (hg : Gl X x) (hm : X.mg x = none) (hv : bootBuiltins x = some (.type T)) (ha : SA X M E (e :: es) g) (hn : x ≠ "__name__" := by decide) (hdb : (x == ("__debug__" : Str)) = false := by decide)
    (he : starEach (e :: es) X.env = (false, eval e X.env) :: starEach es X.env := by rfl) (hpl : (backTo pos (starEach es X.env)).any (·.1) = false := by rfl) : SE X M E (.Call (.Name x p) (e :: es) [] pos) (eCB o g) := by
  obtain ⟨⟨t, pa, q⟩, hl⟩ := ha
  exact ⟨_, pe_callTy hc hg hm hv pa hn hdb he hpl, tCB_ok ho q⟩
theorem rds1 {K : PySem.W.Frag} {r : List Addr} {H : Hp} {d : D} {vs : List V} (h : RDs K r H [d] vs) : ∃ v, vs = [v] ∧ RD K r H d v := by
  obtain ⟨v, vr, e, h1, h2⟩ := rds_cons.mp h
  rw [rds_nil.mp h2] at e
  exact ⟨v, e, h1⟩
theorem rds2 {K : PySem.W.Frag} {r : List Addr} {H : Hp} {d d' : D} {vs : List V} (h : RDs K r H [d, d'] vs) : ∃ v v', vs = [v, v'] ∧ RD K r H d v ∧ RD K r H d' v' := by
  obtain ⟨v, vr, e, h1, h2⟩ := rds_cons.mp h
  obtain ⟨v', e', h3⟩ := rds1 h2
  subst e'
  exact ⟨v, v', e, h1, h3⟩
/-- len of a text, a list, a tuple, a dict is apart -/
def oLen : CF := fun ds S => match ds with
  | [x] => match x with
    | .str s => match Nat.ble s.length lim with
      | true => .ok (.int (s.length : Int)) S
      | false => .bad
    | .tup es => .ok (.int (es.length : Int)) S
    | y => match listOf S y with
      | some es => .ok (.int (es.length : Int)) S
      | none => .bad
  | _ => .bad
theorem ok_len : CallOk X.K M E (fun xs H Q => ∃ x n, xs = [x] ∧ LenV X.K x H n ∧ Q (.int n) H) oLen := by
  intro r S H ds vs Q q hs h
  unfold oLen at h
  split at h
  · rename_i x
    obtain ⟨v, e, hx⟩ := rds1 q
    subst e
    split at h
    · rename_i s
      cases e : Nat.ble s.length lim with
      | false => rw [e] at h; exact h.elim
      | true =>
        rw [e] at h
        refine ⟨v, s.length, rfl, ?_, Post.here h hs (rd_int.mpr rfl)⟩
        rw [rd_str.mp hx]
        exact ⟨by rw [str_len]; exact lim_le e, by rw [str_len]⟩
    · rename_i es
      obtain ⟨a, xs, e, h1, h2⟩ := rd_tup.mp hx
      refine ⟨v, es.length, rfl, ?_, Post.here h hs (rd_int.mpr rfl)⟩
      rw [e]
      exact .inr ⟨xs, SqT.of h1, h2.length⟩
    · cases e : listOf S x with
      | none => rw [e] at h; exact h.elim
      | some es =>
        rw [e] at h
        obtain ⟨a, xs, e1, h1, h2⟩ := listOf_ok e hx hs
        refine ⟨v, es.length, rfl, ?_, Post.here h hs (rd_int.mpr rfl)⟩
        rw [e1]
        exact .inl ⟨xs, h1, h2.length⟩
  · exact h.elim
/-- len of the dict -/
theorem call_lenD2 : True := trivial
/-- list(t) -/
def seqOf (S : Sto) : D → Option (List D)
  | .tup es => some es
  | y => listOf S y
theorem seqOf_ok {K : PySem.W.Frag} {r : List Addr} {H : Hp} {S : Sto} {x : D} {u : V} {ds : List D} (h : seqOf S x = some ds) (hx : RD K r H x u) (hs : RS K M r S H) : ∃ a xs, u = .ref a ∧ (SqL K H a xs ∨ SqT K H a xs) ∧ RDs K r H ds xs := by
  unfold seqOf at h
  split at h
  · cases h
    obtain ⟨a, xs, e, h1, h2⟩ := rd_tup.mp hx
    exact ⟨a, xs, e, .inr (SqT.of h1), h2⟩
  · obtain ⟨a, xs, e, h1, h2⟩ := listOf_ok h hx hs
    exact ⟨a, xs, e, .inl h1, h2⟩
def oList : CF := fun ds S => match ds with
  | [x] => match seqOf S x with
    | some es => .ok (.ob S.length) (S ++ [.lst es])
    | none => .bad
  | _ => .bad
theorem ok_list : CallOk X.K M E (fun xs H Q => ∃ p ys, xs = [.ref p] ∧ (SqL X.K H p ys ∨ SqT X.K H p ys) ∧ ∀ l, H l = none → Q (.ref l) (upd H l (.lst ys))) oList := by
  intro r S H ds vs Q q hs h
  unfold oList at h
  split at h
  · rename_i x
    obtain ⟨v, e, hx⟩ := rds1 q
    subst e
    cases e : seqOf S x with
    | none => rw [e] at h; exact h.elim
    | some es =>
      rw [e] at h
      obtain ⟨a, xs, e1, h1, h2⟩ := seqOf_ok e hx hs
      exact ⟨a, xs, by rw [e1], h1, new_lst hs h2 h⟩
  · exact h.elim
/-- tuple(list) -/
def oTuple : CF := fun ds S => match ds with
  | [x] => match listOf S x with
    | some es => .ok (.tup es) S
    | none => .bad
  | _ => .bad
theorem ok_tuple : CallOk X.K M E (fun xs H Q => ∃ p ys, xs = [.ref p] ∧ ((SqL X.K H p ys ∧ ∀ l, H l = none → Q (.ref l) (upd H l (.tup ys))) ∨ (SqT X.K H p ys ∧ Q (.ref p) H))) oTuple := by
  intro r S H ds vs Q q hs h
  unfold oTuple at h
  split at h
  · rename_i x
    obtain ⟨v, e, hx⟩ := rds1 q
    subst e
    cases e : listOf S x with
    | none => rw [e] at h; exact h.elim
    | some es =>
      rw [e] at h
      obtain ⟨a, xs, e1, h1, h2⟩ := listOf_ok e hx hs
      refine ⟨a, xs, by rw [e1], .inl ⟨h1, fun p hp => ?_⟩⟩
      have l := Leaves.new (M := M) (o := .tup xs) hp
      exact h r _ _ l.grow (rd_tup.mpr ⟨p, _, rfl, upd_same, RDs.mono l.grow _ _ h2⟩) (hs.leaves l)
  · exact h.elim
/-- max(m, n) -/
def oMax : CF := fun ds S => match ds with
  | [x, y] => match x, y with
    | .int i, .int j => .ok (.int (match ltI i j with | true => j | false => i)) S
    | _, _ => .bad
  | _ => .bad
theorem ok_max : CallOk X.K M E (fun xs H Q => ∃ i j, xs = [.int i, .int j] ∧ Q (.int (if j > i then j else i)) H) oMax := by
  intro r S H ds vs Q q hs h
  unfold oMax at h
  split at h
  · rename_i x y
    obtain ⟨v, v', e, hx, hy⟩ := rds2 q
    subst e
    split at h
    · rename_i i j
      refine ⟨i, j, by rw [rd_int.mp hx, rd_int.mp hy], Post.here h hs (rd_int.mpr ?_)⟩
      have z := PySem.W.Z.ltB_iff i j
      show V.int (if j > i then j else i) = V.int (match PySem.W.Z.ltB i j with | true => j | false => i)
      cases e : PySem.W.Z.ltB i j with
      | true => rw [if_pos (z.mp e)]
      | false => rw [if_neg fun k => by rw [z.mpr k] at e; cases e]
    · exact h.elim
  · exact h.elim
end
end Kv

/-! isinstance, texts, dicts, lists by their methods. -/
namespace Kv
open PySem PySem.Spec PyProof.Rows L2
inductive Ty where
  | int | str | tuple | bool | list
def Ty.nm : Ty → String
  | .int => "int"
  | .str => "str"
  | .tuple => "tuple"
  | .bool => "bool"
  | .list => "list"
/-- is a value of the class -/
def isTy (S : Sto) (T : Ty) : D → Option Bool
  | .non => some false
  | .bl _ => match T with
    | .int => some true
    | .bool => some true
    | _ => some false
  | .int _ => match T with
    | .int => some true
    | _ => some false
  | .str _ => match T with
    | .str => some true
    | _ => some false
  | .tup _ => match T with
    | .tuple => some true
    | _ => some false
  | .kl _ => none
  | .ob i => match listOf S (.ob i) with
    | some _ => match T with
      | .list => some true
      | _ => some false
    | none => none
theorem kb_NoneType_int : kitB "NoneType" "int" = some false := by decide +kernel
theorem kb_NoneType_str : kitB "NoneType" "str" = some false := by decide +kernel
theorem kb_NoneType_tuple : kitB "NoneType" "tuple" = some false := by decide +kernel
theorem kb_NoneType_bool : kitB "NoneType" "bool" = some false := by decide +kernel
theorem kb_NoneType_list : kitB "NoneType" "list" = some false := by decide +kernel
theorem kb_bool_int : kitB "bool" "int" = some true := by decide +kernel
theorem kb_bool_str : kitB "bool" "str" = some false := by decide +kernel
theorem kb_bool_tuple : kitB "bool" "tuple" = some false := by decide +kernel
theorem kb_bool_bool : kitB "bool" "bool" = some true := by decide +kernel
theorem kb_bool_list : kitB "bool" "list" = some false := by decide +kernel
theorem kb_int_int : kitB "int" "int" = some true := by decide +kernel
theorem kb_int_str : kitB "int" "str" = some false := by decide +kernel
theorem kb_int_tuple : kitB "int" "tuple" = some false := by decide +kernel
theorem kb_int_bool : kitB "int" "bool" = some false := by decide +kernel
theorem kb_int_list : kitB "int" "list" = some false := by decide +kernel
theorem kb_str_int : kitB "str" "int" = some false := by decide +kernel
theorem kb_str_str : kitB "str" "str" = some true := by decide +kernel
theorem kb_str_tuple : kitB "str" "tuple" = some false := by decide +kernel
theorem kb_str_bool : kitB "str" "bool" = some false := by decide +kernel
theorem kb_str_list : kitB "str" "list" = some false := by decide +kernel
theorem kb_tuple_int : kitB "tuple" "int" = some false := by decide +kernel
theorem kb_tuple_str : kitB "tuple" "str" = some false := by decide +kernel
theorem kb_tuple_tuple : kitB "tuple" "tuple" = some true := by decide +kernel
theorem kb_tuple_bool : kitB "tuple" "bool" = some false := by decide +kernel
theorem kb_tuple_list : kitB "tuple" "list" = some false := by decide +kernel
theorem kb_list_int : kitB "list" "int" = some false := by decide +kernel
theorem kb_list_str : kitB "list" "str" = some false := by decide +kernel
theorem kb_list_tuple : kitB "list" "tuple" = some false := by decide +kernel
theorem kb_list_bool : kitB "list" "bool" = some false := by decide +kernel
theorem kb_list_list : kitB "list" "list" = some true := by decide +kernel
theorem listOf_ty {K : PySem.W.Frag} {M : Mo} {r : List Addr} {H : Hp} {S : Sto} {i : Nat} {u : V} {ds : List D} (h : listOf S (.ob i) = some ds) (hx : RD K r H (.ob i) u) (hs : RS K M r S H) : TyX K H u (.type "list") := by
  · simp only [listOf] at h
    rw [nth_eq] at h
    obtain ⟨a, h1, e⟩ := rd_mut.mp hx
    cases e2 : S[i]? with
    | none => rw [e2] at h; cases h
    | some o =>
      rw [e2] at h
      cases o with
      | lst ds' =>
        obtain ⟨xs, h3, h4⟩ := hs.obj i a _ h1 e2
        rw [e]
        exact .base (.lst h3)
      | _ => cases h
theorem isTy_ok {K : PySem.W.Frag} {M : Mo} {r : List Addr} {H : Hp} {S : Sto} {T : Ty} {x : D} {u : V} {b : Bool} (h : isTy S T x = some b) (hx : RD K r H x u) (hs : RS K M r S H) : ∃ t, TyX K H u t ∧ PySem.W.kitOne K t (.type T.nm) = some b := by
  cases x with
  | non =>
    rw [rd_non.mp hx]
    refine ⟨_, .base .non, ?_⟩
    cases h
    cases T <;> first | exact kit_ty kb_NoneType_int | exact kit_ty kb_NoneType_str | exact kit_ty kb_NoneType_tuple | exact kit_ty kb_NoneType_bool | exact kit_ty kb_NoneType_list
  | bl c =>
    rw [rd_bl.mp hx]
    refine ⟨_, .base (.bl c), ?_⟩
    cases T <;> cases h <;> first | exact kit_ty kb_bool_int | exact kit_ty kb_bool_str | exact kit_ty kb_bool_tuple | exact kit_ty kb_bool_bool | exact kit_ty kb_bool_list
  | int c =>
    rw [rd_int.mp hx]
    refine ⟨_, .base (.int c), ?_⟩
    cases T <;> cases h <;> first | exact kit_ty kb_int_int | exact kit_ty kb_int_str | exact kit_ty kb_int_tuple | exact kit_ty kb_int_bool | exact kit_ty kb_int_list
  | str c =>
    rw [rd_str.mp hx]
    refine ⟨_, .base (.str _), ?_⟩
    cases T <;> cases h <;> first | exact kit_ty kb_str_int | exact kit_ty kb_str_str | exact kit_ty kb_str_tuple | exact kit_ty kb_str_bool | exact kit_ty kb_str_list
  | tup c =>
    obtain ⟨a, xs, e, h1, _⟩ := rd_tup.mp hx
    rw [e]
    refine ⟨_, .base (.tup h1), ?_⟩
    cases T <;> cases h <;> first | exact kit_ty kb_tuple_int | exact kit_ty kb_tuple_str | exact kit_ty kb_tuple_tuple | exact kit_ty kb_tuple_bool | exact kit_ty kb_tuple_list
  | ob c =>
    simp only [isTy] at h
    cases e : listOf S (.ob c) with
    | none => rw [e] at h; cases h
    | some ds =>
      rw [e] at h
      refine ⟨_, listOf_ty e hx hs, ?_⟩
      cases T <;> cases h <;> first | exact kit_ty kb_list_int | exact kit_ty kb_list_str | exact kit_ty kb_list_tuple | exact kit_ty kb_list_bool | exact kit_ty kb_list_list
  | kl c => simp only [isTy] at h; cases h
section
variable {X : Cx} {M : Mo} {E : XK}
def eIsi (T : Ty) (f : EF) : EF := fun en S => (f en S).bind fun x S1 => match isTy S1 T x with
  | some b => .ok (.bl b) S1
  | none => .bad
/-- isinstance(x, T), T a built-in class by its name -/
theorem se_isi {y : Str} {p py pos : Pos} {e : Expr} {f : EF} (T : Ty) (hg : Gl X "isinstance") (hm : X.mg "isinstance" = none) (hgy : Gl X y) (hmy : X.mg y = none) (hvy : bootBuiltins y = some (.type T.nm)) (ha : SE X M E e f) (hny : y ≠ "__name__" := by decide) (hdy : (y == ("__debug__" : Str)) = false := by decide)
    (h1 : starEach (e :: [.Name y py]) X.env = (false, eval e X.env) :: starEach [.Name y py] X.env := by rfl) (h2 : starEach [.Name y py] X.env = (false, eval (.Name y py) X.env) :: starEach [] X.env := by rfl) (hpl : (backTo pos (starEach [.Name y py] X.env)).any (·.1) = false := by rfl) : SE X M E (.Call (.Name "isinstance" p) [e, .Name y py] [] pos) (eIsi T f) := by
  obtain ⟨ta, pa, qa⟩ := ha
  have pt : PE X (.Name y py) (tC (.ty T.nm)) := pe_bltn hgy hmy hvy (show Value.type T.nm = Value.type T.nm from rfl) hny hdy
  refine ⟨_, pe_callB call_isi hg hm (by decide +kernel) (pa_cons pa (pa_cons pt pa_nil h2) h1) (by decide) (by decide) h1 hpl, fun r S en σ H Q he hs h => ?_⟩
  refine qa r S en σ H _ he hs (Post.bind h fun x S1 r1 H1 u _ g1 q1 s1 k1 => ?_)
  cases e : isTy S1 T x with
  | none => rw [e] at k1; exact k1.elim
  | some b =>
    rw [e] at k1
    obtain ⟨t, a1, a2⟩ := isTy_ok e q1 s1
    exact ⟨u, .ty T.nm, t, .type T.nm, b, rfl, .ty _, a1, a2, Post.here k1 s1 (rd_bl.mpr rfl)⟩
/-! ### int(text), str(n), int(n) -/
def oIntS : CF := fun ds S => match ds with
  | [x] => match x with
    | .str s => match Nat.ble s.length 600 with
      | true => match PySem.intText? ⟨s.toArray⟩ with
        | some n => .ok (.int n) S
        | none => .bad
      | false => .bad
    | _ => .bad
  | _ => .bad
theorem ok_intS : CallOk X.K M E (fun xs H Q => ∃ a n, xs = [.str a] ∧ PySem.intText? a = some n ∧ a.length ≤ 640 ∧ Q (.int n) H) oIntS := by
  intro r S H ds vs Q q hs h
  unfold oIntS at h
  split at h
  · rename_i x
    obtain ⟨v, e, hx⟩ := rds1 q
    subst e
    split at h
    · rename_i s
      cases e : Nat.ble s.length 600 with
      | false => rw [e] at h; exact h.elim
      | true =>
        rw [e] at h
        simp only at h
        cases e2 : PySem.intText? ⟨s.toArray⟩ with
        | none => rw [e2] at h; exact h.elim
        | some n =>
          rw [e2] at h
          exact ⟨_, n, by rw [rd_str.mp hx], e2, by rw [str_len]; exact Nat.le_trans (leB_le e) (by decide), Post.here h hs (rd_int.mpr rfl)⟩
    · exact h.elim
  · exact h.elim
def txtI (i : Int) : List Nat := (Str.ofString (toString i)).cps.toList
theorem txtI_str (i : Int) : (⟨(txtI i).toArray⟩ : Str) = Str.ofString (toString i) := by
  unfold txtI
  simp
def smallI (i : Int) : Bool := match Nat.ble i.natAbs (10 ^ 31) with
  | true => true
  | false => false
theorem smallI_ok {i : Int} (h : smallI i = true) : i.natAbs.log2 < 1920 := by
  unfold smallI at h
  cases e : Nat.ble i.natAbs (10 ^ 31) with
  | false => rw [e] at h; cases h
  | true =>
    have hl := leB_le e
    by_cases z : i.natAbs = 0
    · rw [z]; decide
    · refine (Nat.log2_lt z).mpr (Nat.lt_of_le_of_lt hl ?_)
      exact Nat.lt_of_lt_of_le (show (10 ^ 31 : Nat) < 2 ^ 104 by decide) (Nat.pow_le_pow_right (by decide) (by decide))
def oStrI : CF := fun ds S => match ds with
  | [x] => match x with
    | .int i => match smallI i with
      | true => .ok (.str (txtI i)) S
      | false => .bad
    | _ => .bad
  | _ => .bad
theorem ok_strI : CallOk X.K M E (fun xs H Q => ∃ i : Int, xs = [.int i] ∧ i.natAbs.log2 < 1920 ∧ Q (.str (toString i)) H) oStrI := by
  intro r S H ds vs Q q hs h
  unfold oStrI at h
  split at h
  · rename_i x
    obtain ⟨v, e, hx⟩ := rds1 q
    subst e
    split at h
    · rename_i i
      cases e : smallI i with
      | false => rw [e] at h; exact h.elim
      | true =>
        rw [e] at h
        refine ⟨i, by rw [rd_int.mp hx], smallI_ok e, Post.here h hs (rd_str.mpr ?_)⟩
        rw [txtI_str]
    · exact h.elim
  · exact h.elim
/-! ### methods of texts -/
abbrev MF := D → List D → Sto → Ans D
def MethOk (K : PySem.W.Frag) (M : Mo) (E : XK) (t : V → List V → Hp → VK → Prop) (o : MF) : Prop := ∀ (r : List Addr) (S : Sto) (H : Hp) (d : D) (ds : List D) (v : V) (vs : List V) (Q : VK), RD K r H d v → RDs K r H ds vs → RS K M r S H → Post (RD K) K M r H Q E (o d ds S) → t v vs H Q
def isStrD : D → Bool
  | .str _ => true
  | _ => false
def eM1 (o : MF) (f g : EF) : EF := fun en S => (f en S).bind fun x S1 => match isStrD x with
  | true => (g en S1).bind fun y S2 => o x [y] S2
  | false => .bad
theorem tM1_ok {t : V → List V → Hp → VK → Prop} {o : MF} {ta tb : TE} {f g : EF} (ho : MethOk X.K M E t o)
    (ha : ∀ r S en σ H Q, RE X.K r H en σ → RS X.K M r S H → Post (RD X.K) X.K M r H Q E (f en S) → ta σ H Q)
    (hb : ∀ r S en σ H Q, RE X.K r H en σ → RS X.K M r S H → Post (RD X.K) X.K M r H Q E (g en S) → tb σ H Q) :
    ∀ r S en σ H Q, RE X.K r H en σ → RS X.K M r S H → Post (RD X.K) X.K M r H Q E (eM1 o f g en S) → tM1 t ta tb σ H Q := by
  intro r S en σ H Q he hs h
  refine ha r S en σ H _ he hs (Post.bind h fun x S1 r1 H1 u _ g1 q1 s1 h1 => ?_)
  cases x with
  | str s =>
    refine ⟨⟨_, rd_str.mp q1⟩, ?_⟩
    refine hb r1 S1 en σ H1 _ (he.mono g1) s1 (Post.bind h1 fun y S2 r2 H2 v _ g2 q2 s2 h2 => ?_)
    exact ho r2 S2 H2 _ _ _ _ Q (RD.mono g2 _ _ q1) (RDs.one q2) s2 h2
  | _ => exact h1.elim
theorem se_m1 {id : String} {name : Str} {apos pos : Pos} {a e : Expr} {t : V → List V → Hp → VK → Prop} {o : MF} {f g : EF} (slot : Slot "str" name id) (ty : typeOf (.builtin id) = pure (.type "method_descriptor")) (rule : MtR X id t) (ho : MethOk X.K M E t o) (ha : SE X M E a f) (hb : SE X M E e g)
    (hs : starEach [e] X.env = [(false, eval e X.env)] := by rfl) (hbase : attributeBase a name X.env (eval a X.env) = eval a X.env := by rfl) (hline : (apos.endLine == pos.line) = true := by rfl) : SE X M E (.Call (.Attribute a name apos) [e] [] pos) (eM1 o f g) := by
  obtain ⟨ta, pa, qa⟩ := ha
  obtain ⟨tb, pb, qb⟩ := hb
  exact ⟨_, pe_m1 slot ty rule pa pb hs hbase hline, tM1_ok ho qa qb⟩
def oCount : MF := fun x ys S => match x, ys with
  | .str a, [.str b] => .ok (.int (Txt.count ⟨a.toArray⟩ ⟨b.toArray⟩)) S
  | _, _ => .bad
theorem ok_count : MethOk X.K M E (fun x xs H Q => ∃ a b, x = .str a ∧ xs = [.str b] ∧ Q (.int (Txt.count a b)) H) oCount := by
  intro r S H d ds v vs Q hx hy hs h
  unfold oCount at h
  split at h
  · rename_i a b
    obtain ⟨w, e, hw⟩ := rds1 hy
    subst e
    exact ⟨_, _, rd_str.mp hx, by rw [rd_str.mp hw], Post.here h hs (rd_int.mpr rfl)⟩
  · exact h.elim
def strsD : List Str → List D
  | [] => []
  | x :: r => .str x.cps.toList :: strsD r
theorem strsD_ok {K : PySem.W.Frag} {r : List Addr} {H : Hp} : ∀ xs : List Str, RDs K r H (strsD xs) (xs.map V.str)
  | [] => rds_nil.mpr rfl
  | x :: xs => rds_cons.mpr ⟨_, _, rfl, rd_str.mpr (by simp), strsD_ok xs⟩
def oSplit : MF := fun x ys S => match x, ys with
  | .str a, [.str b] => match b with
    | [] => .bad
    | _ :: _ => match Nat.ble (a.length + 2) lim with
      | true => .ok (.ob S.length) (S ++ [.lst (strsD (Txt.split ⟨a.toArray⟩ ⟨b.toArray⟩))])
      | false => .bad
  | _, _ => .bad
theorem ok_split : MethOk X.K M E (fun x xs H Q => ∃ a b, x = .str a ∧ xs = [.str b] ∧ (b.length == 0) = false ∧ a.length + 2 ≤ sizeLine ∧ rNewStrs (Txt.split a b) H Q) oSplit := by
  intro r S H d ds v vs Q hx hy hs h
  unfold oSplit at h
  split at h
  · rename_i a b
    obtain ⟨w, e, hw⟩ := rds1 hy
    subst e
    split at h
    · exact h.elim
    · rename_i b0 b
      cases e : Nat.ble (a.length + 2) lim with
      | false => rw [e] at h; exact h.elim
      | true =>
        rw [e] at h
        exact ⟨_, _, rd_str.mp hx, by rw [rd_str.mp hw], by rw [str_len]; rfl, by rw [str_len]; exact lim_le e, new_lst hs (strsD_ok _) h⟩
  · exact h.elim
def strsOf : List D → Option (List Str)
  | [] => some []
  | .str s :: r => match strsOf r with
    | some xs => some (⟨s.toArray⟩ :: xs)
    | none => none
  | _ => none
theorem strsOf_ok {K : PySem.W.Frag} {r : List Addr} {H : Hp} : ∀ {ds : List D} {vs : List V} {xs : List Str}, strsOf ds = some xs → RDs K r H ds vs → vs = xs.map V.str
  | [], vs, xs, h, q => by
    cases h
    rw [rds_nil.mp q]
    rfl
  | d :: ds, vs, xs, h, q => by
    obtain ⟨v, vr, e, h1, h2⟩ := rds_cons.mp q
    subst e
    cases d <;> simp only [strsOf] at h <;> try cases h
    rename_i s
    cases e : strsOf ds with
    | none => rw [e] at h; cases h
    | some ys =>
      rw [e] at h
      cases h
      rw [rd_str.mp h1, strsOf_ok e h2]
      rfl
def sumLen : List Str → Nat
  | [] => 0
  | x :: r => x.cps.toList.length + sumLen r
theorem sumLen_ok : ∀ xs : List Str, sumLen xs = (xs.map (·.length)).sum
  | [] => rfl
  | x :: r => by
    show x.cps.toList.length + sumLen r = _
    rw [sumLen_ok r, List.map_cons, List.sum_cons]
    show x.cps.toList.length + _ = x.cps.size + _
    simp
def oJoin : MF := fun x ys S => match x, ys with
  | .str a, [y] => match listOf S y with
    | some ds => match strsOf ds with
      | some xs => match Nat.ble (sumLen xs + xs.length * a.length) lim with
        | true => .ok (.str (Txt.join ⟨a.toArray⟩ xs).cps.toList) S
        | false => .bad
      | none => .bad
    | none => .bad
  | _, _ => .bad
theorem ok_join : MethOk X.K M E (fun x xs H Q => ∃ a p, ∃ ys : List Str, x = .str a ∧ xs = [.ref p] ∧ (SqL X.K H p (ys.map V.str) ∨ SqT X.K H p (ys.map V.str)) ∧
    (ys.map (·.length)).sum + ys.length * a.length ≤ 16777216 ∧ Q (.str (Txt.join a ys)) H) oJoin := by
  intro r S H d ds v vs Q hx hy hs h
  unfold oJoin at h
  split at h
  · rename_i a y
    obtain ⟨w, e, hw⟩ := rds1 hy
    subst e
    cases e1 : listOf S y with
    | none => rw [e1] at h; exact h.elim
    | some es =>
      rw [e1] at h
      simp only at h
      cases e2 : strsOf es with
      | none => rw [e2] at h; exact h.elim
      | some xs =>
        rw [e2] at h
        simp only at h
        cases e3 : Nat.ble (sumLen xs + xs.length * a.length) lim with
        | false => rw [e3] at h; exact h.elim
        | true =>
          rw [e3] at h
          obtain ⟨p, zs, e4, h1, h2⟩ := listOf_ok e1 hw hs
          have e5 := strsOf_ok e2 h2
          subst e5
          refine ⟨_, p, xs, rd_str.mp hx, by rw [e4], .inl h1, ?_, Post.here h hs (rd_str.mpr (by simp))⟩
          rw [← sumLen_ok, str_len]
          exact Nat.le_trans (leB_le e3) (by decide)
  · exact h.elim
/-! ### methods of lists -/
def eBM (o : MF) (f : EF) (g : AF) : EF := fun en S => (f en S).bind fun x S1 => match listOf S1 x with
  | some _ => (g en S1).bind fun ys S2 => o x ys S2
  | none => .bad
theorem listOf_tyV {K : PySem.W.Frag} {M : Mo} {r : List Addr} {H : Hp} {S : Sto} {x : D} {u : V} {ds : List D} (h : listOf S x = some ds) (hx : RD K r H x u) (hs : RS K M r S H) : tyV K "list" u H := by
  obtain ⟨a, xs, e, h1, _⟩ := listOf_ok h hx hs
  rw [e]
  exact .inl ⟨rfl, xs, h1⟩
theorem tBM_ok {t : V → List V → Hp → VK → Prop} {o : MF} {ta : TE} {tb : TA} {f : EF} {g : AF} (ho : MethOk X.K M E t o)
    (ha : ∀ r S en σ H Q, RE X.K r H en σ → RS X.K M r S H → Post (RD X.K) X.K M r H Q E (f en S) → ta σ H Q)
    (hb : ∀ r S en σ H Q, RE X.K r H en σ → RS X.K M r S H → Post (RDs X.K) X.K M r H Q E (g en S) → tb σ H Q) :
    ∀ r S en σ H Q, RE X.K r H en σ → RS X.K M r S H → Post (RD X.K) X.K M r H Q E (eBM o f g en S) → tBM X.K "list" t ta tb σ H Q := by
  intro r S en σ H Q he hs h
  refine ha r S en σ H _ he hs (Post.bind h fun x S1 r1 H1 u _ g1 q1 s1 h1 => ?_)
  cases e : listOf S1 x with
  | none => rw [e] at h1; exact h1.elim
  | some ds =>
    rw [e] at h1
    refine ⟨listOf_tyV e q1 s1, ?_⟩
    refine hb r1 S1 en σ H1 _ (he.mono g1) s1 (Post.bind h1 fun y S2 r2 H2 v _ g2 q2 s2 h2 => ?_)
    exact ho r2 S2 H2 _ _ _ _ Q (RD.mono g2 _ _ q1) q2 s2 h2
def oIndexF (x : D) : List D → Nat → Option Nat
  | [], _ => none
  | y :: r, j => match eqD y x with
    | some true => some j
    | some false => oIndexF x r (j + 1)
    | none => none
def oIndex : MF := fun x ys S => match listOf S x, ys with
  | some ds, [y] => match flatD y with
    | true => match ds.all flatD with
      | true => match oIndexF y ds 0 with
        | some j => .ok (.int (j : Int)) S
        | none => .bad
      | false => .bad
    | false => .bad
  | _, _ => .bad
theorem oIndexF_ok {K : PySem.W.Frag} {r : List Addr} {H : Hp} {x : D} {u : V} (hx : RD K r H x u) : ∀ {ds : List D} {vs : List V} {k j : Nat}, oIndexF x ds k = some j → RDs K r H ds vs → k ≤ j ∧ ∃ z, vs[j - k]? = some z ∧ eqV z u = true ∧ ∀ (m : Nat) (z' : V), m < j - k → vs[m]? = some z' → eqV z' u = false
  | [], _, _, _, h, _ => by cases h
  | y :: ds, vs, k, j, h, q => by
    obtain ⟨v, vr, e, h1, h2⟩ := rds_cons.mp q
    subst e
    unfold oIndexF at h
    cases e : eqD y x with
    | none => rw [e] at h; cases h
    | some b =>
      rw [e] at h
      cases b with
      | true =>
        cases h
        refine ⟨Nat.le_refl _, v, by rw [Nat.sub_self]; rfl, eqD_eqV e h1 hx, fun m z' hm _ => by omega⟩
      | false =>
        simp only at h
        obtain ⟨a1, z, a2, a3, a4⟩ := oIndexF_ok hx h h2
        have e3 : j - k = (j - (k + 1)) + 1 := by omega
        refine ⟨by omega, z, by rw [e3]; simpa using a2, a3, fun m z' hm hz => ?_⟩
        cases m with
        | zero =>
          simp at hz
          subst hz
          exact eqD_eqV e h1 hx
        | succ m => exact a4 m z' (by omega) (by simpa using hz)
theorem ok_index : MethOk X.K M E (rIndex X.K) oIndex := by
  intro r S H d ds v vs Q hx hy hs h
  unfold oIndex at h
  split at h
  · rename_i es y e0
    obtain ⟨w, e, hw⟩ := rds1 hy
    subst e
    cases e1 : flatD y with
    | false => rw [e1] at h; exact h.elim
    | true =>
      rw [e1] at h
      simp only at h
      cases e2 : es.all flatD with
      | false => rw [e2] at h; exact h.elim
      | true =>
        rw [e2] at h
        simp only at h
        cases e3 : oIndexF y es 0 with
        | none => rw [e3] at h; exact h.elim
        | some j =>
          rw [e3] at h
          obtain ⟨a, xs, e4, h1, h2⟩ := listOf_ok e0 hx hs
          obtain ⟨_, z, a2, a3, a4⟩ := oIndexF_ok hw e3 h2
          exact ⟨a, xs, w, j, z, e4, rfl, h1, flat_ok e1 hw, flat_all e2 h2, a2, a3, a4, Post.here h hs (rd_int.mpr rfl)⟩
  · exact h.elim
theorem se_index {o e : Expr} {apos cpos : Pos} {f : EF} {g : AF} (ha : SE X M E o f) (hb : SA X M E [e] g) {pl : Prop} (pe : ∀ {to : TE} {t : TA}, PE X o to → PA X [e] t → PE X (.Call (.Attribute o "index" apos) [e] [] cpos) (tBM X.K "list" (rIndex X.K) to t)) : SE X M E (.Call (.Attribute o "index" apos) [e] [] cpos) (eBM oIndex f g) := by
  obtain ⟨ta, pa, qa⟩ := ha
  obtain ⟨⟨tb, pb, qb⟩, _⟩ := hb
  exact ⟨_, pe pa pb, tBM_ok ok_index qa qb⟩
def oAppend : MF := fun x ys S => match x, ys with
  | .ob i, [y] => match nth S i with
    | some (.lst ds) => match Nat.ble ds.length lim with
      | true => .ok .non (setN S i (.lst (ds ++ [y])))
      | false => .bad
    | _ => .bad
  | _, _ => .bad
theorem ok_append : MethOk X.K M E rAppend oAppend := by
  intro r S H d ds v vs Q hx hy hs h
  unfold oAppend at h
  split at h
  · rename_i i y
    obtain ⟨w, e, hw⟩ := rds1 hy
    subst e
    rw [nth_eq] at h
    obtain ⟨a, h1, e⟩ := rd_mut.mp hx
    cases e2 : S[i]? with
    | none => rw [e2] at h; exact h.elim
    | some o =>
      rw [e2] at h
      cases o with
      | lst es =>
        simp only at h
        cases e3 : Nat.ble es.length lim with
        | false => rw [e3] at h; exact h.elim
        | true =>
          rw [e3] at h
          simp only at h
          rw [setN_eq] at h
          obtain ⟨xs, h3, h4⟩ := hs.obj i a _ h1 e2
          obtain ⟨s2, g2⟩ := hs.put (u := .lst (xs ++ [w])) (o := .lst (es ++ [y])) h1 rfl fun H' g q => ⟨_, q, RDs.append (RDs.mono g _ _ h4) (RDs.one (RD.mono g _ _ hw))⟩
          exact ⟨a, xs, w, e, rfl, h3, by rw [← h4.length]; exact lim_lt e3, h _ _ _ g2 (rd_non.mpr rfl) s2⟩
      | _ => exact h.elim
  · exact h.elim
theorem se_append {o e : Expr} {apos cpos : Pos} {f : EF} {g : AF} (ha : SE X M E o f) (hb : SA X M E [e] g) (pe : ∀ {to : TE} {t : TA}, PE X o to → PA X [e] t → PE X (.Call (.Attribute o "append" apos) [e] [] cpos) (tBM X.K "list" rAppend to t)) : SE X M E (.Call (.Attribute o "append" apos) [e] [] cpos) (eBM oAppend f g) := by
  obtain ⟨ta, pa, qa⟩ := ha
  obtain ⟨⟨tb, pb, qb⟩, _⟩ := hb
  exact ⟨_, pe pa pb, tBM_ok ok_append qa qb⟩
/-! ### xs + ys -/
def oCatL : OF := fun x y S => match x, y with
  | .ob i, .ob j => match nth S i, nth S j with
    | some (.lst ds), some (.lst es) => match Nat.ble (ds.length + es.length) lim with
      | true => .ok (.ob S.length) (S ++ [.lst (ds ++ es)])
      | false => .bad
    | _, _ => .bad
  | _, _ => .bad
theorem ok_catL : OpOk X.K M E rCat oCatL := by
  intro r S H x y u v Q hx hy hs h
  unfold oCatL at h
  split at h
  · rename_i i j
    rw [nth_eq, nth_eq] at h
    obtain ⟨a, h1, e1⟩ := rd_mut.mp hx
    obtain ⟨b, h2, e2⟩ := rd_mut.mp hy
    split at h
    · rename_i ds es e3 e4
      cases e : Nat.ble (ds.length + es.length) lim with
      | false => rw [e] at h; exact h.elim
      | true =>
        rw [e] at h
        obtain ⟨xs, h3, h4⟩ := hs.obj i a _ h1 e3
        obtain ⟨ys, h5, h6⟩ := hs.obj j b _ h2 e4
        exact ⟨a, b, xs, ys, e1, e2, h3, h5, by rw [← h4.length, ← h6.length]; exact lim_le e, new_lst hs (h4.append h6) h⟩
    · exact h.elim
  · exact h.elim
theorem se_catL {a b : Expr} {pos : Pos} {f g : EF} (ha : SE X M E a f) (hb : SE X M E b g) : SE X M E (.BinOp a .Add b pos) (eOp oCatL f g) := se_op op_cat ok_catL ha hb
/-! ### dicts: len(d), d.get(k, x) -/
def lookN (k : List Nat) : List (List Nat × D) → Option D
  | [] => none
  | p :: r => match beqN p.1 k with
    | true => some p.2
    | false => lookN k r
theorem lookN_ok {K : PySem.W.Frag} {r : List Addr} {H : Hp} (k : List Nat) : ∀ {ps : List (List Nat × D)} {kv : List (Key × V)}, RKs K r H ps kv → (∀ d, lookN k ps = some d → ∃ v, valV kv (Sum.inr ⟨k.toArray⟩) = some v ∧ RD K r H d v) ∧ (lookN k ps = none → valV kv (Sum.inr ⟨k.toArray⟩) = none)
  | [], kv, h => by
    have e : kv = [] := h
    subst e
    exact ⟨fun d z => (by cases z), fun _ => rfl⟩
  | p :: ps, kv, ⟨v, fr, e, h1, h2⟩ => by
    subst e
    have ih := lookN_ok k h2
    have key : decide (((Sum.inr ⟨p.1.toArray⟩ : Key), v).1 = Sum.inr ⟨k.toArray⟩) = beqN p.1 k := by
      show decide ((Sum.inr ⟨p.1.toArray⟩ : Key) = Sum.inr ⟨k.toArray⟩) = _
      rw [key_rr]
      exact dec_of (beqN_iff.trans ⟨fun e => by rw [e], fun e => by injection e with e; exact List.toArray_inj e⟩)
    unfold lookN
    cases e : beqN p.1 k with
    | true =>
      refine ⟨fun d z => ?_, fun z => by cases z⟩
      simp only [Option.some.injEq] at z
      subst z
      refine ⟨v, ?_, h1⟩
      unfold valV
      rw [List.find?_cons_of_pos (by rw [key, e])]
      rfl
    | false =>
      have e2 : valV (((Sum.inr ⟨p.1.toArray⟩ : Key), v) :: fr) (Sum.inr ⟨k.toArray⟩) = valV fr (Sum.inr ⟨k.toArray⟩) := by
        unfold valV
        rw [List.find?_cons_of_neg (by rw [key, e]; exact Bool.false_ne_true)]
      rw [e2]
      exact ih
theorem RKs.length {K : PySem.W.Frag} {r : List Addr} {H : Hp} : ∀ {ps : List (List Nat × D)} {kv : List (Key × V)}, RKs K r H ps kv → ps.length = kv.length
  | [], kv, h => by
    have e : kv = [] := h
    subst e
    rfl
  | p :: ps, kv, ⟨v, fr, e, h1, h2⟩ => by
    subst e
    rw [List.length_cons, List.length_cons, RKs.length h2]
def oLenD : CF := fun ds S => match ds with
  | [.ob i] => match nth S i with
    | some (.dk kvs) => .ok (.int (kvs.length : Int)) S
    | _ => .bad
  | _ => .bad
theorem ok_lenD : CallOk X.K M E (fun xs H Q => ∃ a kvs, xs = [V.ref a] ∧ H a = some (.dK kvs) ∧ Q (.int kvs.length) H) oLenD := by
  intro r S H ds vs Q q hs h
  unfold oLenD at h
  split at h
  · rename_i i
    obtain ⟨v, e, hx⟩ := rds1 q
    subst e
    rw [nth_eq] at h
    obtain ⟨a, h1, e⟩ := rd_mut.mp hx
    cases e2 : S[i]? with
    | none => rw [e2] at h; exact h.elim
    | some o =>
      rw [e2] at h
      cases o with
      | dk kvs =>
        obtain ⟨kv, h3, h4⟩ := hs.obj i a _ h1 e2
        exact ⟨a, kv, by rw [e], h3, Post.here h hs (rd_int.mpr (by rw [RKs.length h4]))⟩
      | _ => exact h.elim
  · exact h.elim
def eGet2 (f g k : EF) : EF := fun en S => (f en S).bind fun x S1 => match x with
  | .ob i => match nth S1 i with
    | some (.dk _) => (g en S1).bind fun y S2 => (k en S2).bind fun z S3 => match y, nth S3 i with
      | .str s, some (.dk kvs) => match lookN s kvs with
        | some d => .ok d S3
        | none => .ok z S3
      | _, _ => .bad
    | _ => .bad
  | _ => .bad
theorem se_get2 {o e z : Expr} {apos cpos : Pos} {f g k : EF} (ha : SE X M E o f) (hb : SE X M E e g) (hc : SE X M E z k) (pe : ∀ {to te tz : TE}, PE X o to → PE X e te → PE X z tz → PE X (.Call (.Attribute o "get" apos) [e, z] [] cpos) (tDGet2 to te tz)) : SE X M E (.Call (.Attribute o "get" apos) [e, z] [] cpos) (eGet2 f g k) := by
  obtain ⟨ta, pa, qa⟩ := ha
  obtain ⟨tb, pb, qb⟩ := hb
  obtain ⟨tc, pc, qc⟩ := hc
  refine ⟨_, pe pa pb pc, fun r S en σ H Q he hs h => ?_⟩
  refine qa r S en σ H _ he hs (Post.bind h fun x S1 r1 H1 u _ g1 q1 s1 h1 => ?_)
  split at h1
  · rename_i i e0
    obtain ⟨a, a1, e1⟩ := rd_mut.mp q1
    rw [nth_eq] at h1
    cases e2 : S1[i]? with
    | none => rw [e2] at h1; exact h1.elim
    | some ob =>
      rw [e2] at h1
      cases ob with
      | dk kvs0 =>
        simp only at h1
        obtain ⟨kv0, b1, b2⟩ := s1.obj i a _ a1 e2
        refine ⟨a, e1, .inl ⟨kv0, .inl b1⟩, ?_⟩
        refine qb r1 S1 en σ H1 _ (he.mono g1) s1 (Post.bind h1 fun y S2 r2 H2 v _ g2 q2 s2 h2 => ?_)
        refine qc r2 S2 en σ H2 _ ((he.mono g1).mono g2) s2 (Post.bind h2 fun w S3 r3 H3 t _ g3 q3 s3 h3 => ?_)
        rw [nth_eq] at h3
        split at h3
        · rename_i s kvs e3 e7
          have a3 := g3.pre _ _ (g2.pre _ _ a1)
          obtain ⟨kv, c1, c2⟩ := s3.obj i a _ a3 e3
          obtain ⟨l1, l2⟩ := lookN_ok s c2
          have ev : v = kV (Sum.inr ⟨s.toArray⟩) := rd_str.mp (RD.mono g3 _ _ q2)
          subst ev
          refine ⟨_, DGet.k (k := Sum.inr ⟨s.toArray⟩) c1, ?_⟩
          cases e4 : lookN s kvs with
          | none =>
            rw [e4] at h3
            rw [l2 e4]
            exact Post.here h3 s3 q3
          | some d =>
            rw [e4] at h3
            obtain ⟨v', e5, e6⟩ := l1 d e4
            rw [e5]
            exact Post.here h3 s3 e6
        · exact h3.elim
      | _ => exact h1.elim
  · exact h1.elim
end
end Kv

/-! Defs, methods, fields, statements. -/
namespace Kv
open PySem PySem.Spec PyProof.Rows L2
/-- what the context is good for -/
structure CtxE (X : Cx) (E : XK) : Prop where
  calm : X.calm = true
  passes : Passes (L2.CX X.prog X.w) X E
  hu : X.A.units + 65 < cLine
  nd : X.N.Nodup
structure CtxOk (X : Cx) (E : XK) : Prop where
  calm : X.calm = true
  tk : Takes X (fun cls d _ H => E cls d H)
  own : PassesOwn (model X.prog X.w) X.A X.env X.xe
  hu : X.A.units + 65 < cLine
  nd : X.N.Nodup
/-- a def keeps what its function tells -/
def spF (K : PySem.W.Frag) (M : Mo) (np : Nat) (F : CF) : Sp := fun vs H Q E => ∃ r S ds, ds.length = np ∧ RDs K r H ds vs ∧ RS K M r S H ∧ Post (RD K) K M r H Q E (F ds S)
structure FnG (P : Program) (w : World) (K : PySem.W.Frag) (mg : Str → Option Value) (base : Heap) (M : Mo) (n : Nat) (f : Addr) (fd : FuncData) (ps : List Str) (F : CF) : Prop where
  ok : FnOk P w K mg base (L2.CX P w) n f fd ps (spF K M ps.length F)
  bn : Binds K fd ps []
  kp : PySem.W.keepIn K (.ref f) = true
section
variable {X : Cx} {M : Mo} {E : XK}
theorem CtxOk.e (c : CtxOk X E) : CtxE X E := ⟨c.calm, passes_call c.tk fun _ _ _ _ h => h, c.hu, c.nd⟩
theorem se_call {n : Nat} {f : Addr} {fd : FuncData} {ps : List Str} {F : CF} {x : Str} {p pos : Pos} {e : Expr} {es : List Expr} {g : AF} (c : CtxE X E) (hr : Room n X.A) (G : FnG X.prog X.w X.K X.mg X.base M n f fd ps F) (hg : Gl X x) (hm : X.mg x = some (.ref f)) (ha : SA X M E (e :: es) g) (hl : (e :: es).length = ps.length := by rfl) (hdb : (x == ("__debug__" : Str)) = false := by decide)
    (he : starEach (e :: es) X.env = (false, eval e X.env) :: starEach es X.env := by rfl) (hpl : (backTo pos (starEach es X.env)).any (·.1) = false := by rfl) : SE X M E (.Call (.Name x p) (e :: es) [] pos) (eCB F g) := by
  obtain ⟨⟨t, pa, q⟩, hn⟩ := ha
  refine ⟨_, pe_call G.ok hr hg hm G.kp G.bn .nil c.passes pa hdb he hpl, fun r S en σ H Q he hs h => ?_⟩
  refine q r S en σ H _ he hs (Post.bind h fun ds S1 r1 H1 vs e1 g1 q1 s1 h1 => ?_)
  rw [List.append_nil]
  exact ⟨r1, S1, ds, (hn _ _ _ _ e1).trans hl, q1, s1, h1⟩
def eMeth (F : CF) (f : EF) (g : AF) : EF := fun en S => (f en S).bind fun x S1 => match x with
  | .ob i => match nth S1 i with
    | some (.ins _) => (g en S1).bind fun ds S2 => F (x :: ds) S2
    | _ => .bad
  | _ => .bad
theorem lookup_no {K : PySem.W.Frag} {r : List Addr} {H : Hp} {m : Str} (hm : m ≠ "words" ∧ m ≠ "is_staged" ∧ m ≠ "at") : ∀ {fs : List (Nat × D)} {fv : List (Str × V)}, RFs K r H fs fv → fv.lookup m = none
  | [], fv, h => by
    have e : fv = [] := h
    subst e
    rfl
  | p :: ps, fv, ⟨h0, v, fr, e, h1, h2⟩ => by
    subst e
    have ne : m ≠ fname p.1 := by
      match p.1, h0 with
      | 0, _ => exact hm.1
      | 1, _ => exact hm.2.1
      | 2, _ => exact hm.2.2
      | n + 3, h => omega
    have nb : (m == fname p.1) = false := beq_eq_false_iff_ne.mpr ne
    rw [List.lookup_cons, nb]
    exact lookup_no hm h2
theorem tMeth_ok {np : Nat} {F : CF} {m : Str} {ta : TE} {tb : TA} {f : EF} {g : AF} (hm : m ≠ "words" ∧ m ≠ "is_staged" ∧ m ≠ "at")
    (ha : ∀ r S en σ H Q, RE X.K r H en σ → RS X.K M r S H → Post (RD X.K) X.K M r H Q E (f en S) → ta σ H Q)
    (hb : ∀ r S en σ H Q, RE X.K r H en σ → RS X.K M r S H → Post (RDs X.K) X.K M r H Q E (g en S) → tb σ H Q) (hl : ∀ en S ds S', g en S = .ok ds S' → ds.length + 1 = np) :
    ∀ r S en σ H Q, RE X.K r H en σ → RS X.K M r S H → Post (RD X.K) X.K M r H Q E (eMeth F f g en S) → tMeth M.C m (spF X.K M np F) [] E ta tb σ H Q := by
  intro r S en σ H Q he hs h
  refine ha r S en σ H _ he hs (Post.bind h fun x S1 r1 H1 u _ g1 q1 s1 h1 => ?_)
  cases x with
  | ob i =>
    simp only at h1
    rw [nth_eq] at h1
    obtain ⟨a, a1, e1⟩ := rd_mut.mp q1
    cases e2 : S1[i]? with
    | none => rw [e2] at h1; exact h1.elim
    | some o =>
      rw [e2] at h1
      cases o with
      | ins fs =>
        simp only at h1
        obtain ⟨dx, fv, b1, b2⟩ := s1.obj i a _ a1 e2
        refine ⟨a, dx, fv, e1, b1, lookup_no hm b2, ?_⟩
        refine hb r1 S1 en σ H1 _ (he.mono g1) s1 (Post.bind h1 fun ds S2 r2 H2 vs e3 g2 q2 s2 h2 => ?_)
        rw [List.append_nil]
        exact ⟨r2, S2, .ob i :: ds, hl _ _ _ _ e3, rds_cons.mpr ⟨u, vs, rfl, RD.mono g2 _ _ q1, q2⟩, s2, h2⟩
      | _ => exact h1.elim
  | _ => exact h1.elim
theorem se_meth {pl : Sem Bool} {n : Nat} {f : Addr} {fd : FuncData} {ps : List Str} {F : CF} {o : Expr} {m : Str} {apos pos : Pos} {e : Expr} {es : List Expr} {fo : EF} {g : AF} (c : CtxE X E) (cl : Cls X.K M.C) (hm : Meth X.K M.C m f) (hr : Room n X.A) (G : FnG X.prog X.w X.K X.mg X.base M n f fd ps F) (ho : SE X M E o fo) (ha : SA X M E (e :: es) g)
    (hl : (e :: es).length + 1 = ps.length := by rfl) (hno : m ≠ "words" ∧ m ≠ "is_staged" ∧ m ≠ "at" := by decide +kernel)
    (hst : starEach (e :: es) X.env = (false, eval e X.env) :: starEach es X.env := by rfl) (hpl : (backTo pos (starEach es X.env)).any (·.1) = false := by rfl)
    (ht : eval (.Call (.Attribute o m apos) (e :: es) [] pos) X.env = (do
      let ov ← eval o X.env
      standAt apos.atName
      let (f, first) ← holding [ov] (getMethod ov m pl)
      callWith pos f first (backTo pos (starEach (e :: es) X.env)) (backToKw pos (keywordEach [] X.env))) := by rfl) : SE X M E (.Call (.Attribute o m apos) (e :: es) [] pos) (eMeth F fo g) := by
  obtain ⟨to, po, qo⟩ := ho
  obtain ⟨⟨t, pa, q⟩, hn⟩ := ha
  exact ⟨_, pe_meth po cl hm G.ok hr G.bn .nil c.passes pa hst hpl ht, tMeth_ok hno qo q fun en S ds S' h => by rw [hn en S ds S' h]; exact hl⟩
theorem aNil_ok : ∀ r S en σ H Q, RE X.K r H en σ → RS X.K M r S H → Post (RDs X.K) X.K M r H Q E (aNil en S) → tNil σ H Q := fun r S en σ H Q he hs h => Post.here h hs (rds_nil.mpr rfl)
theorem se_meth0 {pl : Sem Bool} {n : Nat} {f : Addr} {fd : FuncData} {ps : List Str} {F : CF} {o : Expr} {m : Str} {apos pos : Pos} {fo : EF} (c : CtxE X E) (cl : Cls X.K M.C) (hm : Meth X.K M.C m f) (hr : Room n X.A) (G : FnG X.prog X.w X.K X.mg X.base M n f fd ps F) (ho : SE X M E o fo)
    (hl : 1 = ps.length := by rfl) (hno : m ≠ "words" ∧ m ≠ "is_staged" ∧ m ≠ "at" := by decide +kernel)
    (ht : eval (.Call (.Attribute o m apos) [] [] pos) X.env = (do
      let ov ← eval o X.env
      standAt apos.atName
      let (f, first) ← holding [ov] (getMethod ov m pl)
      callWith pos f first (backTo pos (starEach [] X.env)) (backToKw pos (keywordEach [] X.env))) := by rfl) : SE X M E (.Call (.Attribute o m apos) [] [] pos) (eMeth F fo aNil) := by
  obtain ⟨to, po, qo⟩ := ho
  exact ⟨_, pe_meth0 po cl hm G.ok hr G.bn .nil c.passes ht, tMeth_ok hno qo aNil_ok fun en S ds S' h => by cases h; exact hl⟩
/-- a new Reading -/
def eMake (F : CF) (g : AF) : EF := fun en S => (g en S).bind fun ds S1 => (F (.ob S1.length :: ds) (S1 ++ [.ins []])).bind fun d S2 => match d with
  | .non => .ok (.ob S1.length) S2
  | _ => .bad
theorem se_make {n : Nat} {f : Addr} {fd : FuncData} {ps : List Str} {F : CF} {x : Str} {p pos : Pos} {e : Expr} {es : List Expr} {g : AF} (c : CtxE X E) (Mk : Mk X.K M.C f) (hr : Room (n + 1) X.A) (G : FnG X.prog X.w X.K X.mg X.base M n f fd ps F) (hg : Gl X x) (hm : X.mg x = some (.ref M.C)) (ha : SA X M E (e :: es) g) (hl : (e :: es).length + 1 = ps.length := by rfl) (hdb : (x == ("__debug__" : Str)) = false := by decide)
    (he : starEach (e :: es) X.env = (false, eval e X.env) :: starEach es X.env := by rfl) (hpl : (backTo pos (starEach es X.env)).any (·.1) = false := by rfl) : SE X M E (.Call (.Name x p) (e :: es) [] pos) (eMake F g) := by
  obtain ⟨⟨t, pa, q⟩, hn⟩ := ha
  refine ⟨_, pe_make Mk G.ok hr hg hm G.bn .nil c.passes pa hdb he hpl, fun r S en σ H Q he hs h => ?_⟩
  refine q r S en σ H _ he hs (Post.bind h fun ds S1 r1 H1 vs e1 g1 q1 s1 h1 => ?_)
  intro x dx nx ndx ne
  rw [List.append_nil]
  have l1 := Leaves.new (M := M) (o := .own x) ndx
  have nx2 : upd H1 dx (.own x) x = none := by rw [upd_ne (Ne.symm ne)]; exact nx
  obtain ⟨s3, g3⟩ := (s1.leaves l1).push (u := .ins M.C dx []) (o := .ins []) nx2 fun r' H' g e => ⟨dx, [], e, rfl⟩
  have g4 : Grow r1 H1 (r1 ++ [x]) (upd (upd H1 dx (.own x)) x (.ins M.C dx [])) := (l1.grow).trans g3
  have hx : (r1 ++ [x])[S1.length]? = some x := by
    rw [← s1.len, List.getElem?_append_right (Nat.le_refl _)]
    simp
  refine ⟨r1 ++ [x], S1 ++ [.ins []], .ob S1.length :: ds, ?_, rds_cons.mpr ⟨_, vs, rfl, rd_mut.mpr ⟨x, hx, rfl⟩, RDs.mono g4 _ _ q1⟩, s3, ?_⟩
  · rw [List.length_cons, hn _ _ _ _ e1]
    exact hl
  · refine Post.bind (Post.grow h1 g4) fun d S4 r4 H4 v e4 g5 q4 s4 h4 => ?_
    cases d with
    | non => exact ⟨rd_non.mp q4, Post.here h4 s4 (rd_mut.mpr ⟨x, g5.pre _ _ hx, rfl⟩)⟩
    | _ => exact h4.elim
/-! ### fields -/
def lookF (n : Nat) : List (Nat × D) → Option D
  | [] => none
  | p :: r => match Nat.beq p.1 n with
    | true => some p.2
    | false => lookF n r
theorem fname_inj {a b : Nat} (ha : a < 3) (hb : b < 3) (h : fname a = fname b) : a = b := by
  have k01 : ¬ (("words" : Str) = "is_staged") := by decide +kernel
  have k02 : ¬ (("words" : Str) = "at") := by decide +kernel
  have k12 : ¬ (("is_staged" : Str) = "at") := by decide +kernel
  match a, b, ha, hb, h with
  | 0, 0, _, _, _ => rfl
  | 1, 1, _, _, _ => rfl
  | 2, 2, _, _, _ => rfl
  | 0, 1, _, _, h => exact absurd h k01
  | 0, 2, _, _, h => exact absurd h k02
  | 1, 2, _, _, h => exact absurd h k12
  | 1, 0, _, _, h => exact absurd h.symm k01
  | 2, 0, _, _, h => exact absurd h.symm k02
  | 2, 1, _, _, h => exact absurd h.symm k12
  | n + 3, _, h, _, _ => omega
  | _, n + 3, _, h, _ => omega
theorem lookF_ok {K : PySem.W.Frag} {r : List Addr} {H : Hp} {n : Nat} (hn : n < 3) : ∀ {fs : List (Nat × D)} {fv : List (Str × V)} {d : D}, lookF n fs = some d → RFs K r H fs fv → ∃ v, fv.lookup (fname n) = some v ∧ RD K r H d v
  | p :: ps, fv, d, h, ⟨h0, v, fr, e, h1, h2⟩ => by
    subst e
    unfold lookF at h
    cases e : Nat.beq p.1 n with
    | true =>
      rw [e] at h
      cases h
      have e2 : p.1 = n := Nat.eq_of_beq_eq_true e
      refine ⟨v, ?_, h1⟩
      rw [List.lookup_cons, e2]
      simp
    | false =>
      rw [e] at h
      obtain ⟨w, a, b⟩ := lookF_ok hn h h2
      refine ⟨w, ?_, b⟩
      have ne : fname n ≠ fname p.1 := fun z => Nat.ne_of_beq_eq_false e (fname_inj hn h0 z).symm
      rw [List.lookup_cons, beq_eq_false_iff_ne.mpr ne]
      exact a
def eFld (n : Nat) (f : EF) : EF := fun en S => (f en S).bind fun x S1 => match x with
  | .ob i => match nth S1 i with
    | some (.ins fs) => match lookF n fs with
      | some d => .ok d S1
      | none => .bad
    | _ => .bad
  | _ => .bad
theorem se_fld {o : Expr} {fl : Str} {pos : Pos} {f : EF} (n : Nat) (cl : Cls X.K M.C) (na : NoAttr X.K M.C fl) (ho : SE X M E o f) (hn : n < 3 := by decide) (hf : fl = fname n := by rfl) (hb : attributeBase o fl X.env (eval o X.env) = eval o X.env := by rfl) : SE X M E (.Attribute o fl pos) (eFld n f) := by
  subst hf
  obtain ⟨to, po, qo⟩ := ho
  refine ⟨_, pe_fld po hb, fun r S en σ H Q he hs h => ?_⟩
  refine qo r S en σ H _ he hs (Post.bind h fun x S1 r1 H1 u _ g1 q1 s1 h1 => ?_)
  cases x with
  | ob i =>
    simp only at h1
    rw [nth_eq] at h1
    obtain ⟨a, a1, e1⟩ := rd_mut.mp q1
    cases e2 : S1[i]? with
    | none => rw [e2] at h1; exact h1.elim
    | some o =>
      rw [e2] at h1
      cases o with
      | ins fs =>
        simp only at h1
        cases e3 : lookF n fs with
        | none => rw [e3] at h1; exact h1.elim
        | some d =>
          rw [e3] at h1
          obtain ⟨dx, fv, b1, b2⟩ := s1.obj i a _ a1 e2
          obtain ⟨v, b3, b4⟩ := lookF_ok hn e3 b2
          exact ⟨a, M.C, dx, fv, v, e1, b1, cl, na, b3, Post.here h1 s1 b4⟩
      | _ => exact h1.elim
  | _ => exact h1.elim
def putFN (n : Nat) (d : D) : List (Nat × D) → List (Nat × D)
  | [] => [(n, d)]
  | p :: r => match Nat.beq p.1 n with
    | true => (n, d) :: r
    | false => p :: putFN n d r
theorem putFN_ok {K : PySem.W.Frag} {r : List Addr} {H : Hp} {n : Nat} {d : D} {v : V} (hn : n < 3) (hd : RD K r H d v) : ∀ {fs : List (Nat × D)} {fv : List (Str × V)}, RFs K r H fs fv → RFs K r H (putFN n d fs) (putF (fname n) v fv)
  | [], fv, h => by
    have e : fv = [] := h
    subst e
    exact ⟨hn, v, [], rfl, hd, rfl⟩
  | p :: ps, fv, ⟨h0, w, fr, e, h1, h2⟩ => by
    subst e
    unfold putFN
    show RFs K r H _ (if fname p.1 = fname n then (fname p.1, v) :: fr else (fname p.1, w) :: putF (fname n) v fr)
    cases e : Nat.beq p.1 n with
    | true =>
      have e2 : p.1 = n := Nat.eq_of_beq_eq_true e
      rw [if_pos (by rw [e2])]
      exact ⟨hn, v, fr, by rw [e2], hd, h2⟩
    | false =>
      rw [if_neg fun z => Nat.ne_of_beq_eq_false e (fname_inj h0 hn z)]
      exact ⟨h0, w, _, rfl, h1, putFN_ok hn hd h2⟩
theorem RFs.length {K : PySem.W.Frag} {r : List Addr} {H : Hp} : ∀ {fs : List (Nat × D)} {fv : List (Str × V)}, RFs K r H fs fv → fs.length = fv.length
  | [], fv, h => by
    have e : fv = [] := h
    subst e
    rfl
  | p :: ps, fv, ⟨h0, w, fr, e, h1, h2⟩ => by
    subst e
    rw [List.length_cons, List.length_cons, RFs.length h2]
/-! ### statements -/
def sFldS (n : Nat) (f g : EF) : SF := fun en S => (g en S).out fun d S1 => (f en S1).out fun x S2 => match x with
  | .ob i => match nth S2 i with
    | some (.ins fs) => match Nat.ble fs.length 3 with
      | true => .nx en (setN S2 i (.ins (putFN n d fs)))
      | false => .bad
    | _ => .bad
  | _ => .bad
theorem ss_fld {o value : Expr} {fl : Str} {pos pos' : Pos} {f g : EF} (n : Nat) (cl : Cls X.K M.C) (na : NoAttr X.K M.C fl) (ho : SE X M E o f) (hv : SE X M E value g) (hn : n < 3 := by decide) (hf : fl = fname n := by rfl) (hs : swapsWith value (some (.Attribute o fl pos')) pos.line X.env = pure false := by rfl) : SS X M E (.Assign [.Attribute o fl pos'] value pos) (sFldS n f g) := by
  subst hf
  obtain ⟨to, po, qo⟩ := ho
  obtain ⟨tv, pv, qv⟩ := hv
  refine ⟨_, ps_fld po pv hs, fun r S en σ H Z he hs h => ?_⟩
  refine qv r S en σ H _ he hs (PostS.out h fun d S1 r1 H1 v _ g1 q1 s1 h1 => ?_)
  refine qo r1 S1 en σ H1 _ (he.mono g1) s1 (PostS.out h1 fun x S2 r2 H2 u _ g2 q2 s2 h2 => ?_)
  cases x with
  | ob i =>
    simp only at h2
    rw [nth_eq] at h2
    obtain ⟨a, a1, e1⟩ := rd_mut.mp q2
    cases e2 : S2[i]? with
    | none => rw [e2] at h2; exact h2.elim
    | some o =>
      rw [e2] at h2
      cases o with
      | ins fs =>
        simp only at h2
        cases e3 : Nat.ble fs.length 3 with
        | false => rw [e3] at h2; exact h2.elim
        | true =>
          rw [e3] at h2
          simp only at h2
          rw [setN_eq] at h2
          obtain ⟨dx, fv, b1, b2⟩ := s2.obj i a _ a1 e2
          have hd := RD.mono g2 _ _ q1
          obtain ⟨s3, g3⟩ := s2.put (u := .ins M.C dx (putF (fname n) v fv)) (o := .ins (putFN n d fs)) a1 rfl fun H' g q => ⟨dx, _, q, putFN_ok hn (RD.mono g _ _ hd) (RFs.mono g _ _ b2)⟩
          exact ⟨a, M.C, dx, fv, e1, b1, cl, na, by rw [← RFs.length b2]; exact Nat.lt_of_le_of_lt (leB_le e3) (by decide), h2 _ _ _ g3 (((he.mono g1).mono g2).mono g3) s3⟩
      | _ => exact h2.elim
  | _ => exact h2.elim
def sNx : SF := fun en S => .nx en S
def sSeq (f g : SF) : SF := fun en S => match f en S with
  | .nx e S1 => g e S1
  | o => o
theorem sss_nil : SSs X M E [] sNx := ⟨_, pss_nil, fun r S en σ H Z he hs h => h r H σ (Grow.refl r H) he hs⟩
theorem sss_cons {st : Stmt} {rest : List Stmt} {f g : SF} (h1 : SS X M E st f) (h2 : SSs X M E rest g) : SSs X M E (st :: rest) (sSeq f g) := by
  obtain ⟨t, p, q⟩ := h1
  obtain ⟨u, p', q'⟩ := h2
  refine ⟨_, pss_cons p p', fun r S en σ H Z he hs h => ?_⟩
  refine q r S en σ H _ he hs ?_
  unfold sSeq at h
  cases e : f en S with
  | nx e1 S1 =>
    rw [e] at h
    exact fun r' H' σ' g' he' hs' => q' r' S1 e1 σ' H' Z he' hs' (PostS.grow h g')
  | rt d S1 => rw [e] at h; exact h
  | bk e1 S1 => rw [e] at h; exact h
  | ct e1 S1 => rw [e] at h; exact h
  | exc c S1 => rw [e] at h; exact h
  | bad => rw [e] at h; exact h
theorem sss_one {st : Stmt} {f : SF} (h1 : SS X M E st f) : SSs X M E [st] f := let ⟨t, p, q⟩ := h1; ⟨t, pss_one p, q⟩
def sAsg (i : Nat) (f : EF) : SF := fun en S => (f en S).out fun d S1 => .nx (setN en i (some d)) S1
theorem ss_set {i : Nat} {x : Str} {e : Expr} {f : EF} {pos pos' : Pos} (c : CtxOk X E) (he : SE X M E e f) (hi : X.N[i]? = some x := by rfl) (hx : Loc X.env.scope x := by first | exact Or.inl rfl | exact Or.inr rfl) (hs : swapsWith e (some (.Name x pos')) pos.line X.env = pure false := by rfl) (hf : X.fn x = true ∨ X.env.scope.names.lookup x = some .local := by first | exact .inl rfl | exact .inr rfl) : SS X M E (.Assign [.Name x pos'] e pos) (sAsg i f) := by
  obtain ⟨t, p, q⟩ := he
  refine ⟨_, ps_set c.nd hi hx p hs hf, fun r S en σ H Z he hs h => ?_⟩
  exact q r S en σ H _ he hs (PostS.out h fun d S1 r1 H1 v _ g1 q1 s1 h1 => h1 r1 H1 _ (Grow.refl _ _) ((he.mono g1).set q1 i) s1)
def sDrop (f : EF) : SF := fun en S => (f en S).out fun _ S1 => .nx en S1
theorem ss_expr {e : Expr} {f : EF} {pos : Pos} (he : SE X M E e f) (hs : swapsWith e none pos.line X.env = pure false := by rfl) : SS X M E (.Expr e pos) (sDrop f) := by
  obtain ⟨t, p, q⟩ := he
  refine ⟨_, ps_expr p hs, fun r S en σ H Z he hs h => ?_⟩
  exact q r S en σ H _ he hs (PostS.out h fun d S1 r1 H1 v _ g1 q1 s1 h1 => h1 r1 H1 _ (Grow.refl _ _) (he.mono g1) s1)
def sRet (f : EF) : SF := fun en S => (f en S).out fun d S1 => .rt d S1
theorem ss_ret {e : Expr} {f : EF} {pos : Pos} (he : SE X M E e f) : SS X M E (.Return (some e) pos) (sRet f) := by
  obtain ⟨t, p, q⟩ := he
  refine ⟨_, ps_ret p, fun r S en σ H Z he hs h => ?_⟩
  exact q r S en σ H _ he hs (PostS.out h fun d S1 r1 H1 v _ g1 q1 s1 h1 => h1 r1 H1 _ (Grow.refl _ _) q1 s1)
def sIf (c : BF) (f g : SF) : SF := fun en S => (c en S).out fun b S1 => match b with
  | true => f en S1
  | false => g en S1
theorem ss_if {c : Expr} {a b : List Stmt} {k : BF} {f g : SF} {pos : Pos} (hc : ST X M E c k) (ha : SSs X M E a f) (hb : SSs X M E b g) : SS X M E (.If c a b pos) (sIf k f g) := by
  obtain ⟨tc, pc, qc⟩ := hc
  obtain ⟨ta, pa, qa⟩ := ha
  obtain ⟨tb, pb, qb⟩ := hb
  refine ⟨_, ps_if pc pa pb, fun r S en σ H Z he hs h => ?_⟩
  refine qc r S en σ H _ he hs (PostS.out h fun x S1 r1 H1 u _ g1 q1 s1 h1 => ?_)
  have e : x = u := q1
  subst e
  cases x with
  | true => rw [if_pos rfl]; exact qa r1 S1 en σ H1 Z (he.mono g1) s1 h1
  | false => rw [if_neg Bool.false_ne_true]; exact qb r1 S1 en σ H1 Z (he.mono g1) s1 h1
/-- what never comes -/
def sNever : SF := fun _ _ => .bad
theorem ss_never {st : Stmt} : SS X M E st sNever := ⟨_, ps_never, fun r S en σ H Z he hs h => h⟩
/-- a, b = e1, e2 (two plain local names) -/
def sPar (i j : Nat) (g : AF) : SF := fun en S => (g en S).out fun ds S1 => match ds with
  | [x, y] => .nx (setN (setN en i (some x)) j (some y)) S1
  | _ => .bad
theorem ss_par {i j : Nat} {x y : Str} {a b : Expr} {g : AF} {pos px py pt : Pos} {kt k2 : Nat} {pt2 : Pos} (c : CtxOk X E) (hi : X.N[i]? = some x) (hj : X.N[j]? = some y) (hij : i ≠ j)
    (hx : X.env.scope.names.lookup x = some .local) (hy : X.env.scope.names.lookup y = some .local) (ha : SA X M E [a, b] g)
    (hw : swappedStores [.Tuple [.Name x px, .Name y py] kt pt] (.Tuple [a, b] k2 pt2) X.env = pure (some [x, y]))
    (hs : swapsWithSole [.Tuple [.Name x px, .Name y py] kt pt] (.Tuple [a, b] k2 pt2) pos.line X.env = pure false := by rfl) :
    SS X M E (.Assign [.Tuple [.Name x px, .Name y py] kt pt] (.Tuple [a, b] k2 pt2) pos) (sPar i j g) := by
  obtain ⟨⟨t, p, q⟩, _⟩ := ha
  refine ⟨_, ps_par c.calm c.nd hi hj hij hx hy p hw hs, fun r S en σ H Z he hs h => ?_⟩
  refine q r S en σ H _ he hs (PostS.out h fun ds S1 r1 H1 vs _ g1 q1 s1 h1 => ?_)
  split at h1
  · rename_i d d' _
    obtain ⟨v, v', e, a1, a2⟩ := rds2 q1
    exact ⟨v, v', e, h1 r1 H1 _ (Grow.refl _ _) (((he.mono g1).set a1 i).set a2 j) s1⟩
  · exact h1.elim
/-! ### raise -/
def sRaise (c : Nat) : SF := fun _ S => .exc c S
/-- X(), an own class over ValueError without __init__ -/
theorem pmk_own0 {C : Addr} {bmB : List Value} {B newId initId : String} {x : Str} {p pos : Pos} (F : ExcBaseFacts B newId initId bmB) (q : PySem.W.excIn X.K C bmB newId = true) (gC : X.mg x = some (.ref C)) (kC : PySem.W.keepIn X.K (.ref C) = true) (r : Raises X (.ref C)) (hg : Gl X x)
    (hdb : (x == ("__debug__" : Str)) = false := by decide) : PMk X (.Call (.Name x p) [] [] pos) (fun _ H Q => Q (.ref C) none H) := by
  intro pins s σ H Q I h
  refine wpAny_Call_Name_kw (ld_glob I hg gC ?_ hdb)
  refine PySem.W.callWith_K0 I.kIn kC ?_
  show wpAny _ _ (call (.ref C) []) _ _ _
  obtain ⟨bm, N, nm, qn, bs, hdct, sn, sub, ab, col, dd, k0, k1, k2, k3, k5, mN, hC, hN, hni, T⟩ := exc_obj I.kIn q
  refine wpAny_call_exc_subT F T hC hN hni (fun h' e hm => ?_) (by show 0 ≤ sizeLine; exact Nat.zero_le _)
  exact mk_of I hm r h (I.hok.gone hm.new)
structure ExcF (K : PySem.W.Frag) (mg : Str → Option Value) (x : Str) (C : Addr) : Prop where
  g : mg x = some (.ref C)
  k : PySem.W.keepIn K (.ref C) = true
  q : PySem.W.excIn K C [.type "ValueError", .type "Exception", .type "BaseException", .type "object"] "ValueError.__new__" = true
  b : PySem.W.subIn K (.ref C) (.type "BaseException") = some true
  t : PySem.W.typeIn K (.ref C) = some (.type "type")
theorem ss_raise {x : Str} {p pos pos' : Pos} (n : Nat) (c : CtxOk X E) (F : ExcF X.K X.mg x (M.xc n)) (hg : Gl X x) (hdb : (x == ("__debug__" : Str)) = false := by decide) : SS X M E (.Raise (some (.Call (.Name x p) [] [] pos)) none pos') (sRaise n) :=
  ⟨_, ps_raise c.calm c.tk (pmk_own0 PySem.F.excBase_ValueError F.q F.g F.k (raises_own F.b F.t) hg hdb), fun r S en σ H Z he hs h => h r H (Grow.refl r H) hs⟩
end
end Kv

/-! Targets, loops, comprehensions, f-strings. -/
namespace Kv
open PySem PySem.Spec PyProof.Rows L2
/-! ### the truth of a list or of a text, as a test -/
section
variable {X : Cx} {M : Mo} {E : XK}
def truD (S : Sto) : D → Option Bool
  | .str s => match Nat.ble s.length lim with
    | true => some (match s with | [] => false | _ :: _ => true)
    | false => none
  | d => match listOf S d with
    | some ds => some (match ds with | [] => false | _ :: _ => true)
    | none => none
def bTru (f : EF) : BF := fun en S => (f en S).bind fun x S1 => match truD S1 x with
  | some b => .ok b S1
  | none => .bad
theorem st_tru {e : Expr} {f : EF} (h : SE X M E e f) (he : ∀ whole, isTrue e X.env whole = (do let v ← whole; standAt e.pos; holding [v] (truthy v)) := by intro _; rfl) : ST X M E e (bTru f) := by
  obtain ⟨t, p, q⟩ := h
  refine ⟨_, pt_truth p he, fun r S en σ H Q he hs h => ?_⟩
  refine q r S en σ H _ he hs (Post.bind h fun x S1 r1 H1 u _ g1 q1 s1 h1 => ?_)
  cases e : truD S1 x with
  | none => rw [e] at h1; exact h1.elim
  | some b =>
    rw [e] at h1
    refine ⟨b, ?_, Post.here h1 s1 rfl⟩
    unfold truD at e
    split at e
    · rename_i s _
      cases e0 : Nat.ble s.length lim with
      | false => rw [e0] at e; cases e
      | true =>
        rw [e0] at e
        rw [rd_str.mp q1]
        cases e
        refine ⟨by rw [str_len]; exact lim_le e0, ?_⟩
        rw [str_len]
        cases s with
        | nil => rfl
        | cons a r => simp; omega
    · cases e0 : listOf S1 x with
      | none => rw [e0] at e; cases e
      | some ds =>
        rw [e0] at e
        obtain ⟨a, xs, e1, h2, h3⟩ := listOf_ok e0 q1 s1
        rw [e1]
        cases e
        refine .inl ⟨xs, h2, ?_⟩
        have hl := h3.length
        cases ds <;> cases xs <;> simp_all
/-! ### while -/
def whileF (c : BF) (b : SF) : Nat → En → Sto → Out
  | 0, _, _ => .bad
  | n + 1, en, S => (c en S).out fun t S1 => match t with
    | false => .nx en S1
    | true => match b en S1 with
      | .nx e S2 => whileF c b n e S2
      | .ct e S2 => whileF c b n e S2
      | .bk e S2 => .nx e S2
      | .rt d S2 => .rt d S2
      | .exc x S2 => .exc x S2
      | .bad => .bad
theorem ss_while {k : Expr} {body : List Stmt} {c : BF} {b : SF} {pos : Pos} (n : Nat) (cx : CtxOk X E) (hc : ST X M E k c) (hb : SSs X M E body b) : SS X M E (.While k body [] pos) (whileF c b n) := by
  obtain ⟨tc, pc, qc⟩ := hc
  obtain ⟨tb, pb, qb⟩ := hb
  refine ⟨_, ps_while cx.own pc pb, fun r S en σ H Z he hs h => ?_⟩
  refine ⟨fun m σ H => ∃ r S en, RE X.K r H en σ ∧ RS X.K M r S H ∧ PostS X.K M r H Z E (whileF c b m en S), ⟨n, r, S, en, he, hs, h⟩, ?_⟩
  rintro m σ H ⟨r, S, en, he, hs, h⟩
  cases m with
  | zero => exact h.elim
  | succ m =>
    unfold whileF at h
    refine qc r S en σ H _ he hs (PostS.out h fun t S1 r1 H1 u _ g1 q1 s1 h1 => ?_)
    have e : t = u := q1
    subst e
    cases t with
    | false => rw [if_neg Bool.false_ne_true]; exact h1 r1 H1 σ (Grow.refl _ _) (he.mono g1) s1
    | true =>
      rw [if_pos rfl]
      refine ⟨_, fun σ' H' z => z, ?_⟩
      refine qb r1 S1 en σ H1 _ (he.mono g1) s1 ?_
      simp only at h1
      cases e : b en S1 with
      | nx e2 S2 => rw [e] at h1; exact fun r' H' σ' g' he' hs' => ⟨m, Nat.lt_succ_self m, r', S2, e2, he', hs', PostS.grow h1 g'⟩
      | ct e2 S2 => rw [e] at h1; exact fun r' H' σ' g' he' hs' => ⟨m, Nat.lt_succ_self m, r', S2, e2, he', hs', PostS.grow h1 g'⟩
      | bk e2 S2 => rw [e] at h1; exact h1
      | rt d S2 => rw [e] at h1; exact h1
      | exc x S2 => rw [e] at h1; exact h1
      | bad => rw [e] at h1; exact h1
/-! ### targets -/
abbrev GF := D → En → Sto → Option En
/-- only the slots vs changed -/
def Ch (vs : List Nat) (σ σ' : L2.St) : Prop := σ'.length = σ.length ∧ ∀ j, j ∉ vs → σ'[j]? = σ[j]?
theorem Ch.refl (vs : List Nat) (σ : L2.St) : Ch vs σ σ := ⟨rfl, fun _ _ => rfl⟩
theorem Ch.trans {vs : List Nat} {a b c : L2.St} (h : Ch vs a b) (k : Ch vs b c) : Ch vs a c := ⟨k.1.trans h.1, fun j hj => (k.2 j hj).trans (h.2 j hj)⟩
theorem wipe_at {σ : L2.St} {j : Nat} : ∀ {vs : List Nat}, j < σ.length → (wipe σ vs)[j]? = if j ∈ vs then some none else σ[j]?
  | [], _ => by simp [wipe]
  | v :: vs, h => by
    unfold wipe
    by_cases e : v = j
    · subst e
      rw [List.getElem?_set_self (by rw [wipe_length]; exact h)]
      simp
    · rw [List.getElem?_set_ne e, wipe_at h]
      by_cases m : j ∈ vs <;> simp [m, Ne.symm e]
theorem Ch.wipe {vs : List Nat} {σ σ' : L2.St} (h : Ch vs σ σ') : wipe σ' vs = wipe σ vs := by
  refine List.ext_getElem? fun j => ?_
  by_cases hj : j < σ.length
  · rw [wipe_at hj, wipe_at (by rw [h.1]; exact hj)]
    by_cases m : j ∈ vs
    · simp [m]
    · simp only [m, if_false]; exact h.2 j m
  · rw [List.getElem?_eq_none (by rw [wipe_length, h.1]; omega), List.getElem?_eq_none (by rw [wipe_length]; omega)]
theorem wipe_wipe {σ : L2.St} {vs : List Nat} : L2.wipe (L2.wipe σ vs) vs = L2.wipe σ vs := by
  refine List.ext_getElem? fun j => ?_
  by_cases hj : j < σ.length
  · rw [wipe_at (by rw [wipe_length]; exact hj), wipe_at hj]
    by_cases m : j ∈ vs <;> simp [m]
  · rw [List.getElem?_eq_none (by rw [wipe_length, wipe_length]; omega), List.getElem?_eq_none (by rw [wipe_length]; omega)]
structure SG (X : Cx) (M : Mo) (vs : List Nat) (tg : Expr) (g : GF) : Prop where
  ex : ∃ t, PG X tg t ∧ ∀ r S en en' σ H d v Q, RE X.K r H en σ → RS X.K M r S H → RD X.K r H d v → g d en S = some en' → (∀ σ', RE X.K r H en' σ' → Ch vs σ σ' → Q σ' H) → t v σ H Q
structure SGs (X : Cx) (M : Mo) (vs : List Nat) (tg : List Expr) (n : Nat) (g : List D → En → Sto → Option En) : Prop where
  ex : ∃ t, PGs X tg t ∧ ∀ r S en en' σ H ds ws Q, RE X.K r H en σ → RS X.K M r S H → RDs X.K r H ds ws → g ds en S = some en' → (∀ σ', RE X.K r H en' σ' → Ch vs σ σ' → Q σ' H) → t ws σ H Q
  len : ∀ ds en S en', g ds en S = some en' → ds.length = n
def gN (i : Nat) : GF := fun d en _ => some (setN en i (some d))
theorem sg_name {vs : List Nat} {x : Str} {pos : Pos} (i : Nat) (hN : X.N.Nodup) (hi : X.N[i]? = some x := by rfl) (hv : i ∈ vs := by decide) (hx : Loc X.env.scope x := by first | exact Or.inl rfl | exact Or.inr rfl) (hf : X.fn x = true ∨ X.env.scope.names.lookup x = some .local := by first | exact .inl rfl | exact .inr rfl) : SG X M vs (.Name x pos) (gN i) := by
  refine ⟨_, pg_name hN hi hx hf, fun r S en en' σ H d v Q he hs hd e k => ?_⟩
  cases e
  exact k _ (he.set hd i) ⟨by simp, fun j hj => List.getElem?_set_ne fun z => hj (by rw [← z]; exact hv)⟩
def gs0 : List D → En → Sto → Option En := fun ds en _ => match ds with
  | [] => some en
  | _ :: _ => none
def gsC (g : GF) (k : List D → En → Sto → Option En) : List D → En → Sto → Option En := fun ds en S => match ds with
  | [] => none
  | d :: r => match g d en S with
    | some e => k r e S
    | none => none
theorem sgs_nil {vs : List Nat} : SGs X M vs [] 0 gs0 := by
  refine ⟨⟨_, pgs_nil, fun r S en en' σ H ds ws Q he hs hd e k => ?_⟩, fun ds en S en' e => ?_⟩
  · cases ds with
    | nil => cases e; exact ⟨rds_nil.mp hd, k σ he (Ch.refl _ _)⟩
    | cons => cases e
  · cases ds with
    | nil => rfl
    | cons => cases e
theorem sgs_cons {vs : List Nat} {e : Expr} {es : List Expr} {n : Nat} {g : GF} {k : List D → En → Sto → Option En} (h1 : SG X M vs e g) (h2 : SGs X M vs es n k) (hs : (assignEach (e :: es) X.env).map (·.2) = assign e X.env :: (assignEach es X.env).map (·.2) := by rfl) : SGs X M vs (e :: es) (n + 1) (gsC g k) := by
  obtain ⟨t, p, q⟩ := h1
  obtain ⟨⟨u, p2, q2⟩, hl⟩ := h2
  refine ⟨⟨_, pgs_cons p p2 hs, fun r S en en' σ H ds ws Q he hs hd e k => ?_⟩, fun ds en S en' e => ?_⟩
  · cases ds with
    | nil => cases e
    | cons d ds =>
      obtain ⟨v, vr, e1, h3, h4⟩ := rds_cons.mp hd
      subst e1
      unfold gsC at e
      simp only at e
      cases e2 : g d en S with
      | none => rw [e2] at e; cases e
      | some en1 =>
        rw [e2] at e
        exact ⟨v, vr, rfl, q r S en en1 σ H d v _ he hs h3 e2 fun σ' he' c' => q2 r S en1 en' σ' H ds vr Q he' hs h4 e fun σ'' he'' c'' => k σ'' he'' (c'.trans c'')⟩
  · cases ds with
    | nil => cases e
    | cons d ds =>
      unfold gsC at e
      simp only at e
      cases e2 : g d en S with
      | none => rw [e2] at e; cases e
      | some en1 => rw [e2] at e; rw [List.length_cons, hl _ _ _ _ e]
def gT (k : List D → En → Sto → Option En) : GF := fun d en S => match d with
  | .tup ds => k ds en S
  | _ => none
def gL (k : List D → En → Sto → Option En) : GF := fun d en S => match listOf S d with
  | some ds => k ds en S
  | none => none
theorem sg_tup {vs : List Nat} {es : List Expr} {n kk : Nat} {pos : Pos} {k : List D → En → Sto → Option En} (hc : X.calm = true) (h : SGs X M vs es n k) (hn : (assignEach es X.env).length = n := by rfl) (hst : (assignEach es X.env).findIdx? (·.1) = none := by rfl) : SG X M vs (.Tuple es kk pos) (gT k) := by
  obtain ⟨⟨t, p, q⟩, hl⟩ := h
  refine ⟨_, pg_tup hc p hn hst, fun r S en en' σ H d v Q he hs hd e kq => ?_⟩
  unfold gT at e
  split at e
  · rename_i ds
    obtain ⟨a, xs, e1, h1, h2⟩ := rd_tup.mp hd
    exact ⟨a, xs, e1, SqT.of h1, h2.length.symm.trans (hl _ _ _ _ e), q r S en en' σ H ds xs Q he hs h2 e kq⟩
  · cases e
theorem sg_unl {vs : List Nat} {es : List Expr} {n kk : Nat} {pos : Pos} {k : List D → En → Sto → Option En} (hc : X.calm = true) (h : SGs X M vs es n k) (hn : (assignEach es X.env).length = n := by rfl) (hst : (assignEach es X.env).findIdx? (·.1) = none := by rfl) : SG X M vs (.Tuple es kk pos) (gL k) := by
  obtain ⟨⟨t, p, q⟩, hl⟩ := h
  refine ⟨_, pg_unl hc p hn hst, fun r S en en' σ H d v Q he hs hd e kq => ?_⟩
  unfold gL at e
  cases e0 : listOf S d with
  | none => rw [e0] at e; cases e
  | some ds =>
    rw [e0] at e
    obtain ⟨a, xs, e1, h1, h2⟩ := listOf_ok e0 hd hs
    exact ⟨a, xs, e1, h1, h2.length.symm.trans (hl _ _ _ _ e), q r S en en' σ H ds xs Q he hs h2 e kq⟩
def sAsgG (g : GF) (f : EF) : SF := fun en S => (f en S).out fun d S1 => match g d en S1 with
  | some e => .nx e S1
  | none => .bad
theorem ss_asg {vs : List Nat} {tg e : Expr} {f : EF} {g : GF} {pos : Pos} (he : SE X M E e f) (hg : SG X M vs tg g) (hs : swapsWithSole [tg] e pos.line X.env = pure false := by rfl) (hw : swappedStores [tg] e X.env = pure none := by rfl) (h1 : (assignEach [tg] X.env).map (·.2) = [assign tg X.env] := by rfl) : SS X M E (.Assign [tg] e pos) (sAsgG g f) := by
  obtain ⟨t, p, q⟩ := he
  obtain ⟨u, p2, q2⟩ := hg
  refine ⟨_, ps_asg p p2 hs hw h1, fun r S en σ H Z he hs h => ?_⟩
  refine q r S en σ H _ he hs (PostS.out h fun d S1 r1 H1 v _ g1 q1 s1 h1 => ?_)
  cases e1 : g d en S1 with
  | none => rw [e1] at h1; exact h1.elim
  | some en' =>
    rw [e1] at h1
    exact q2 r1 S1 en en' σ H1 d v _ (he.mono g1) s1 q1 e1 fun σ' he' _ => h1 r1 H1 σ' (Grow.refl _ _) he' s1
/-! ### what is walked -/
def ItOk (K : PySem.W.Frag) (r : List Addr) (H : Hp) (d : D) (J : It) : Prop := match d with
  | .tup ds => ∃ a xs, J = Itt K a ∧ H a = some (.tup xs) ∧ RDs K r H ds xs
  | .str s => J = Its ⟨s.toArray⟩
  | d => ∃ a, RD K r H d (.ref a) ∧ J = Itl K a
theorem ItOk.mono {K : PySem.W.Frag} {r r' : List Addr} {H H' : Hp} {d : D} {J : It} (g : Grow r H r' H') (h : ItOk K r H d J) : ItOk K r' H' d J := by
  cases d with
  | tup ds => obtain ⟨a, xs, e, h1, h2⟩ := h; exact ⟨a, xs, e, g.tup _ _ h1, RDs.mono g _ _ h2⟩
  | str s => exact h
  | _ => obtain ⟨a, h1, e⟩ := h; exact ⟨a, RD.mono g _ _ h1, e⟩
/-- none: it cannot be said; some none: the end -/
def itAt (S : Sto) (k : Nat) : D → Option (Option D)
  | .tup ds => some (nth ds k)
  | .str s => some (match nth s k with
    | some c => some (.str [c])
    | none => none)
  | d => match listOf S d with
    | some ds => some (nth ds k)
    | none => none
theorem itAt_stop {K : PySem.W.Frag} {r : List Addr} {S : Sto} {H : Hp} {d : D} {J : It} {k : Nat} (h : itAt S k d = some none) (hs : RS K M r S H) (hj : ItOk K r H d J) : J.stop k H := by
  cases d with
  | tup ds =>
    obtain ⟨a, xs, e, h1, h2⟩ := hj
    subst e
    have h := Option.some.inj h
    rw [nth_eq, List.getElem?_eq_none_iff] at h
    exact ⟨xs, SqT.of h1, by rw [← h2.length]; exact h⟩
  | str s =>
    have e : J = Its ⟨s.toArray⟩ := hj
    subst e
    have h := Option.some.inj h
    show s.toArray.size ≤ k
    rw [nth_eq] at h
    cases e : s[k]? with
    | none => simpa using List.getElem?_eq_none_iff.mp e
    | some c => rw [e] at h; cases h
  | ob i =>
    obtain ⟨a, h1, e⟩ := hj
    subst e
    replace h : (match listOf S (.ob i) with | some ds => some (nth ds k) | none => none) = some none := h
    cases e : listOf S (.ob i) with
    | none => rw [e] at h; cases h
    | some ds =>
      rw [e] at h
      have h := Option.some.inj h
      rw [nth_eq, List.getElem?_eq_none_iff] at h
      obtain ⟨b, xs, e2, h2, h3⟩ := listOf_ok e h1 hs
      cases e2
      exact ⟨xs, h2, by rw [← h3.length]; exact h⟩
  | kl ds0 =>
    obtain ⟨a, h1, e⟩ := hj
    subst e
    replace h : (match listOf S (.kl ds0) with | some ds => some (nth ds k) | none => none) = some none := h
    cases e : listOf S (.kl ds0) with
    | none => rw [e] at h; cases h
    | some ds =>
      rw [e] at h
      have h := Option.some.inj h
      rw [nth_eq, List.getElem?_eq_none_iff] at h
      obtain ⟨b, xs, e2, h2, h3⟩ := listOf_ok e h1 hs
      cases e2
      exact ⟨xs, h2, by rw [← h3.length]; exact h⟩
  | non => cases h
  | bl => cases h
  | int => cases h
theorem itAt_go {K : PySem.W.Frag} {r : List Addr} {S : Sto} {H : Hp} {d x : D} {J : It} {k : Nat} (h : itAt S k d = some (some x)) (hs : RS K M r S H) (hj : ItOk K r H d J) : J.go k H ∧ ∀ v H', J.yld k H v H' → H' = H ∧ RD K r H x v := by
  cases d with
  | tup ds =>
    obtain ⟨a, xs, e, h1, h2⟩ := hj
    subst e
    have h := Option.some.inj h
    rw [nth_eq] at h
    obtain ⟨w, h3, h4⟩ := h2.get h
    refine ⟨⟨xs, w, SqT.of h1, h3⟩, fun v H' z => ⟨z.1, ?_⟩⟩
    have e := z.2 xs (SqT.of h1)
    rw [h3] at e
    cases e
    exact h4
  | str s =>
    have e : J = Its ⟨s.toArray⟩ := hj
    subst e
    have h := Option.some.inj h
    rw [nth_eq] at h
    cases e : s[k]? with
    | none => rw [e] at h; cases h
    | some c =>
      rw [e] at h
      cases h
      refine ⟨?_, fun v H' z => ⟨z.1, ?_⟩⟩
      · show k < s.toArray.size
        simpa using (List.getElem?_eq_some_iff.mp e).1
      · obtain ⟨c', e1, e2⟩ := z.2
        have e3 : s[k]? = some c' := by simpa using e1
        rw [e] at e3
        cases e3
        rw [e2]
        exact rd_str.mpr rfl
  | ob i =>
    obtain ⟨a, h1, e⟩ := hj
    subst e
    replace h : (match listOf S (.ob i) with | some ds => some (nth ds k) | none => none) = some (some x) := h
    cases e : listOf S (.ob i) with
    | none => rw [e] at h; cases h
    | some ds =>
      rw [e] at h
      have h := Option.some.inj h
      rw [nth_eq] at h
      obtain ⟨b, xs, e2, h2, h3⟩ := listOf_ok e h1 hs
      cases e2
      obtain ⟨w, h4, h5⟩ := h3.get h
      refine ⟨⟨xs, w, h2, h4⟩, fun v H' z => ⟨z.1, ?_⟩⟩
      have e := z.2 xs h2
      rw [h4] at e
      cases e
      exact h5
  | kl ds0 =>
    obtain ⟨a, h1, e⟩ := hj
    subst e
    replace h : (match listOf S (.kl ds0) with | some ds => some (nth ds k) | none => none) = some (some x) := h
    cases e : listOf S (.kl ds0) with
    | none => rw [e] at h; cases h
    | some ds =>
      rw [e] at h
      have h := Option.some.inj h
      rw [nth_eq] at h
      obtain ⟨b, xs, e2, h2, h3⟩ := listOf_ok e h1 hs
      cases e2
      obtain ⟨w, h4, h5⟩ := h3.get h
      refine ⟨⟨xs, w, h2, h4⟩, fun v H' z => ⟨z.1, ?_⟩⟩
      have e := z.2 xs h2
      rw [h4] at e
      cases e
      exact h5
  | non => cases h
  | bl => cases h
  | int => cases h
structure SI (X : Cx) (M : Mo) (E : XK) (tg iter : Expr) (f : EF) : Prop where
  ex : ∃ wi, PI X tg iter wi ∧ ∀ r S en σ H R, RE X.K r H en σ → RS X.K M r S H → Post (ItOk X.K) X.K M r H R E (f en S) → wi σ H R
def iT (f : EF) : EF := fun en S => (f en S).bind fun d S1 => match d with
  | .tup ds => .ok (.tup ds) S1
  | _ => .bad
def iS (f : EF) : EF := fun en S => (f en S).bind fun d S1 => match d with
  | .str s => .ok (.str s) S1
  | _ => .bad
def iL (f : EF) : EF := fun en S => (f en S).bind fun d S1 => match d with
  | .ob i => match listOf S1 (.ob i) with
    | some _ => .ok (.ob i) S1
    | none => .bad
  | _ => .bad
theorem si_tup {tg e : Expr} {f : EF} (h : SE X M E e f) : SI X M E tg e (iT f) := by
  obtain ⟨t, p, q⟩ := h
  refine ⟨_, pi_tup p, fun r S en σ H R he hs h => ?_⟩
  refine q r S en σ H _ he hs (Post.bind h fun d S1 r1 H1 v _ g1 q1 s1 h1 => ?_)
  split at h1
  · rename_i ds
    obtain ⟨a, xs, e, h2, h3⟩ := rd_tup.mp q1
    exact ⟨a, e, ⟨xs, SqT.of h2⟩, Post.here h1 s1 ⟨a, xs, rfl, h2, h3⟩⟩
  · exact h1.elim
theorem si_str {tg e : Expr} {f : EF} (h : SE X M E e f) : SI X M E tg e (iS f) := by
  obtain ⟨t, p, q⟩ := h
  refine ⟨_, pi_str p, fun r S en σ H R he hs h => ?_⟩
  refine q r S en σ H _ he hs (Post.bind h fun d S1 r1 H1 v _ g1 q1 s1 h1 => ?_)
  split at h1
  · rename_i s _
    exact ⟨_, rd_str.mp q1, Post.here h1 s1 (show ItOk X.K r1 H1 (.str s) _ from rfl)⟩
  · exact h1.elim
theorem si_lst {tg e : Expr} {f : EF} (h : SE X M E e f) : SI X M E tg e (iL f) := by
  obtain ⟨t, p, q⟩ := h
  refine ⟨_, pi_list p, fun r S en σ H R he hs h => ?_⟩
  refine q r S en σ H _ he hs (Post.bind h fun d S1 r1 H1 v _ g1 q1 s1 h1 => ?_)
  split at h1
  · rename_i i _
    cases e : listOf S1 (.ob i) with
    | none => rw [e] at h1; exact h1.elim
    | some ds =>
      rw [e] at h1
      obtain ⟨a, xs, e1, h2, h3⟩ := listOf_ok e q1 s1
      subst e1
      exact ⟨a, rfl, ⟨xs, h2⟩, Post.here h1 s1 (show ItOk X.K r1 H1 (.ob i) _ from ⟨a, q1, rfl⟩)⟩
  · exact h1.elim
/-! ### for -/
def forF (x : D) (g : GF) (b : SF) : Nat → Nat → En → Sto → Out
  | 0, _, _, _ => .bad
  | n + 1, k, en, S => match itAt S k x with
    | none => .bad
    | some none => .nx en S
    | some (some d) => match g d en S with
      | none => .bad
      | some en1 => match b en1 S with
        | .nx e S2 => forF x g b n (k + 1) e S2
        | .ct e S2 => forF x g b n (k + 1) e S2
        | .bk e S2 => .nx e S2
        | .rt d S2 => .rt d S2
        | .exc x S2 => .exc x S2
        | .bad => .bad
def sFor (n : Nat) (f : EF) (g : GF) (b : SF) : SF := fun en S => (f en S).out fun x S1 => forF x g b n 0 en S1
theorem ss_for {vs : List Nat} {tg iter : Expr} {body : List Stmt} {f : EF} {g : GF} {b : SF} {pos : Pos} (n : Nat) (cx : CtxOk X E) (hi : SI X M E tg iter f) (hg : SG X M vs tg g) (hb : SSs X M E body b) (hs : ∀ x, foldedSetIterable iter X.env x = pure x := by intro _; rfl) : SS X M E (.For tg iter body [] pos) (sFor n f g b) := by
  obtain ⟨ti, pi, qi⟩ := hi
  obtain ⟨tg', pg, qg⟩ := hg
  obtain ⟨tb, pb, qb⟩ := hb
  refine ⟨_, ps_for cx.own cx.calm pi pg pb hs, fun r S en σ H Z he hs h => ?_⟩
  refine qi r S en σ H _ he hs (PostS.out h fun x S1 r1 H1 J _ g1 j1 s1 h1 => ?_)
  refine ⟨fun k m σ H => ∃ r S en, RE X.K r H en σ ∧ RS X.K M r S H ∧ ItOk X.K r H x J ∧ PostS X.K M r H Z E (forF x g b m k en S), ⟨n, r1, S1, en, he.mono g1, s1, j1, h1⟩, ?_⟩
  clear h h1 j1 s1 g1 he hs
  rintro k m σ H ⟨r, S, en, he, hs, hj, h⟩
  cases m with
  | zero => exact h.elim
  | succ m =>
    unfold forF at h
    cases e : itAt S k x with
    | none => rw [e] at h; exact h.elim
    | some o =>
      rw [e] at h
      cases o with
      | none => exact .inl ⟨itAt_stop e hs hj, h r H σ (Grow.refl _ _) he hs⟩
      | some d =>
        obtain ⟨go, hy⟩ := itAt_go e hs hj
        refine .inr ⟨go, _, fun σ' H' z => z, fun v H' y => ?_⟩
        obtain ⟨eH, hd⟩ := hy v H' y
        subst eH
        simp only at h
        cases e2 : g d en S with
        | none => rw [e2] at h; exact h.elim
        | some en1 =>
          rw [e2] at h
          simp only at h
          refine qg r S en en1 σ _ d v _ he hs hd e2 fun σ' he' _ => ?_
          refine qb r S en1 σ' _ _ he' hs ?_
          cases e3 : b en1 S with
          | nx e2 S2 => rw [e3] at h; exact fun r' H' σ' g' he' hs' => ⟨m, Nat.lt_succ_self m, r', S2, e2, he', hs', hj.mono g', PostS.grow h g'⟩
          | ct e2 S2 => rw [e3] at h; exact fun r' H' σ' g' he' hs' => ⟨m, Nat.lt_succ_self m, r', S2, e2, he', hs', hj.mono g', PostS.grow h g'⟩
          | bk e2 S2 => rw [e3] at h; exact h
          | rt d S2 => rw [e3] at h; exact h
          | exc x S2 => rw [e3] at h; exact h
          | bad => rw [e3] at h; exact h
end
end Kv

/-! Generator expressions whose elements call defs. -/
namespace Kv
open PySem PySem.Spec PyProof.Rows L2 GenW
/-- the context of a generator expression's frame -/
abbrev gCx (X : Cx) (s : Shared) (H : Hp) (cenv : Env) (A' : Around) (fp : List Addr) : Cx := { X with A := A', s_0 := s, H_0 := H, env := cenv, outer := X.stack, stack := cenv :: X.stack, ex := fp, fn := fun _ => false, pn := [], xe := fun _ _ => False }
section
variable {X : Cx} {pins : List (Addr × Obj)} {σ : L2.St} {H : Hp} {s : Shared}
theorem gen_start {scope : Scope} {own : List (Str × Nat)} {fp : List Addr} {A' : Around} {code : Value} {s' : Shared} {m0 : Str → Option Value} (I : Inv X pins σ H s) (ok : BlkOk X.N X.env.scope scope own) (hN : X.N.Nodup) (hcell : ∀ y ∈ scope.names, y.2 ≠ .cell) (hfp : ∀ b ∈ fp, FpOk X pins H b ∧ b < s.heap.objs.size)
    (hA : A'.handled = none) (hAf : A'.frames = some (genEnv scope (cloFrom X.env.cells scope.names []) s.heap.objs.size code builtinsNs X.env :: X.stack)) (hn : s'.heap.Ns s.heap.objs.size m0) (kp : ∀ b o, s.heap.get? b = some o → s'.heap.get? b = some o) (hos : s'.os = s.os) (hb : AllBare s'.gens) :
    Inv (gCx X s H (genEnv scope (cloFrom X.env.cells scope.names []) s.heap.objs.size code builtinsNs X.env) A' fp) [] (wipe σ (own.map (·.2))) H s' := by
  have hfree : ∀ y ∈ scope.names, y.2 = .free → ∃ c, X.env.cells.lookup y.1 = some c := fun y hy e => by
    rcases ok.free y hy e with k | k
    · exact I.ok.has _ (.inl k)
    · exact I.ok.has _ (.inr k)
  generalize hcenv : genEnv scope (cloFrom X.env.cells scope.names []) s.heap.objs.size code builtinsNs X.env = cenv at hAf ⊢
  have hL : cenv.locals = s.heap.objs.size := by rw [← hcenv]; rfl
  have hfrm : cenv.frame = some cenv.locals := by rw [← hcenv]; rfl
  have hcl : cenv.cells = cloFrom X.env.cells scope.names [] := by rw [← hcenv]; rfl
  have hsc : cenv.scope = scope := by rw [← hcenv]; rfl
  have cm : ∀ {y c}, (y, c) ∈ cloFrom X.env.cells scope.names [] → X.env.cells.lookup y = some c ∧ c < s.heap.objs.size ∧ scope.names.lookup y = some .free := fun {y c} hm => by
    rcases cloFrom_mem hm with hm | ⟨h1, rfl⟩
    · cases hm
    · obtain ⟨c, hc⟩ := hfree _ h1 rfl
      rw [hc]
      obtain ⟨w, z⟩ := I.cell _ _ hc
      exact ⟨rfl, z.lt, ok.uniq _ h1⟩
  have mem : ∀ {y c}, cenv.cells.lookup y = some c → X.env.cells.lookup y = some c ∧ c < s.heap.objs.size ∧ scope.names.lookup y = some .free := fun {y c} e => by
    rw [hcl] at e
    exact cm (PySem.mem_of_lookup e)
  have look : ∀ {y}, scope.names.lookup y = some .free → ∃ c, cenv.cells.lookup y = some c ∧ X.env.cells.lookup y = some c := fun {y} hl => by
    have hy : (y, NameKind.free) ∈ scope.names := PySem.mem_of_lookup hl
    obtain ⟨c', e'⟩ := mem_lookup (cloFrom_has (cells := X.env.cells) (acc := []) hy)
    rw [← hcl] at e'
    exact ⟨c', e', (mem e').1⟩
  have nocell : ∀ {y}, cenv.kindOf y ≠ some .cell := fun {y} e => by
    unfold Env.kindOf at e
    rw [hsc] at e
    exact hcell _ (PySem.mem_of_lookup e) rfl
  have okB : (gCx X s H cenv A' fp).Ok := by
    refine ⟨I.ok.mod, by show cenv.scope.kind = _; rw [hsc]; exact ok.kind, by show cenv.globals = _; rw [← hcenv]; exact I.ok.glob, by show cenv.builtins = _; rw [← hcenv]; rfl, by show s.heap.objs.size ≤ cenv.locals; rw [hL]; exact Nat.le_refl _,
      fun y z c e1 e2 => ?_, fun y hy => ?_, fun y c z e => ?_, fun _ => hA, hAf, .inr ⟨rfl, hfrm⟩, fun b hb => ⟨?_, fun y c e z => ?_⟩, I.bs, Nat.le_trans I.ok.bsz I.sz, fun b o e hb => ?_, fun b hb z => ?_, I.stack, I.stkFree⟩
    · exact I.ok.inj y z c (mem e1).1 (mem e2).1
    · rcases hy with hy | hy
      · exact absurd hy nocell
      · have hy : cenv.scope.names.lookup y = some .free := hy
        rw [hsc] at hy
        obtain ⟨c, h1, _⟩ := look hy
        exact ⟨c, h1⟩
    · exact absurd z Bool.false_ne_true
    · show b ≠ cenv.locals
      rw [hL]; exact Nat.ne_of_lt (hfp b hb).2
    · have e : cenv.cells.lookup y = some c := e
      exact (hfp b hb).1.2.2.2.2.1 y c (mem e).1 z
    · rcases (hfp b hb).1.2.2.2.1 with z | z
      · exact I.ok.noex b o e z
      · exact absurd (Nat.lt_of_lt_of_le (Heap.lt_size e) (Nat.le_trans I.ok.bsz z)) (Nat.lt_irrefl _)
    · rcases List.mem_cons.mp (I.stkSub b z) with z | z
      · exact (hfp b hb).1.2.1 z
      · exact (hfp b hb).1.2.2.1 z
  refine ⟨okB, hos, hb, Un.kept kp, ⟨m0, by show Heap.Ns _ cenv.locals _; rw [hL]; exact hn, fun i y av e1 e2 e3 => ?_⟩, fun y c e => ?_, ?_, fun y c e => ?_, fun p hp => ?_, I.hok.kept kp, by rw [wipe_length]; exact I.len⟩
  · obtain ⟨e2, hne⟩ := wipe_some e2
    have no : ∀ k, scope.names.lookup y = some k → ¬ (k = .local ∨ k = .cell) := fun k e hh => by
      rcases ok.own _ (PySem.mem_of_lookup e) hh with e' | e'
      · obtain ⟨p, hp, hpy⟩ := List.mem_map.mp e'
        have e3 := ok.ix p hp
        have : p.1 = y := hpy
        rw [this] at e3
        exact hne (List.mem_map.mpr ⟨p, hp, nodup_ix hN e3 e1⟩)
      · exact e' (List.mem_of_getElem? e1)
    have e3 : Vis cenv.scope y := e3
    rw [hsc] at e3
    have hfr : scope.names.lookup y = some .free := by
      rcases e3 with e3 | e3 | e3
      · exact absurd (.inl rfl) (no _ e3)
      · exact absurd (.inr rfl) (no _ e3)
      · exact e3
    obtain ⟨m, hn, hl⟩ := I.loc
    have hvis : Vis X.env.scope y := (ok.free _ (PySem.mem_of_lookup hfr) rfl).elim (fun k => .inr (.inl k)) (fun k => .inr (.inr k))
    obtain ⟨w, r, q⟩ := hl i y av e1 e2 hvis
    have hk : cenv.kindOf y = some .free := by
      unfold Env.kindOf
      rw [hsc]
      exact hfr
    refine ⟨w, r, .inr ⟨.inr hk, ?_⟩⟩
    obtain ⟨c, h1, h2⟩ := look hfr
    rcases q with ⟨k, _⟩ | ⟨_, c', e', z⟩
    · have k : X.env.scope.names.lookup y = some .local := k
      rcases ok.free _ (PySem.mem_of_lookup hfr) rfl with k' | k' <;> rw [show X.env.scope.names.lookup y = _ from k'] at k <;> cases k
    · rw [h2] at e'; cases e'
      exact ⟨c, h1, z.keeps kp⟩
  · have e : cenv.cells.lookup y = some c := e
    obtain ⟨w, z⟩ := I.cell y c (mem e).1
    exact ⟨w, z.keeps kp⟩
  · show H cenv.locals = none
    rw [hL]; exact I.hok.fresh (Nat.le_refl _)
  · have e : cenv.cells.lookup y = some c := e
    exact I.freeC y c (mem e).1
  · exact absurd (show p ∈ ([] : List (Addr × Obj)) ++ [] from hp) (by simp)
end
end Kv

/-! The generator's run: pulls. -/
namespace Kv
open PySem PySem.Spec PyProof.Rows L2 GenW
theorem pinsAt_same {fp : List Addr} {h h' : Heap} (k : ∀ b ∈ fp, ∃ o, h.get? b = some o ∧ h'.get? b = some o) : pinsAt fp h' = pinsAt fp h := by
  unfold pinsAt
  induction fp with
  | nil => rfl
  | cons b r ih =>
    obtain ⟨o, e1, e2⟩ := k b List.mem_cons_self
    rw [List.filterMap_cons, List.filterMap_cons, e1, e2, ih fun c hc => k c (List.mem_cons_of_mem _ hc)]
section
variable {P : Program} {w : World}
/-- what a pull is to give: items, one by one; W by the turn -/
structure GenT (vs : List Nat) (ω : L2.St) (J : It) (g : TG) (te : TE) (items : List V) (full : Bool) (W : Nat → Hp → Prop) : Prop where
  turn : ∀ i H, i < items.length → W i H → J.go i H ∧ ∀ x H', J.yld i H x H' → g x ω H' fun σ2 H2 => wipe σ2 vs = ω ∧ te σ2 H2 fun y H3 => items[i]? = some y ∧ W (i + 1) H3
  stop : full = true → ∀ H, W items.length H → J.stop items.length H
variable {X : Cx} {tg elt iter : Expr} {scope : Scope} {pos : Pos} {vs : List Nat} {ω : L2.St} {J : It} {g : TG} {te : TE} {items : List V} {full : Bool} {W : Nat → Hp → Prop} {it : Addr} {fp ps : List Addr} {tn : Nat → Heap → Prop} {A1 : Around} {cenv : Env}
/-- between two pulls -/
def Good (X : Cx) (ω : L2.St) (fp ps : List Addr) (tn : Nat → Heap → Prop) (W : Nat → Hp → Prop) (pz : List (Addr × Obj)) (i : Nat) (s : Shared) : Prop :=
  ∃ H, Inv X pz ω H s ∧ tn i s.heap ∧ (∀ b ∈ fp, H b = none) ∧ W i H
abbrev gCode (tg elt iter : Expr) (scope : Scope) (pos : Pos) (it : Addr) (cenv : Env) : Code := .compLoop (.GeneratorExp elt [⟨tg, iter, [], 0⟩] scope pos) 0 (.ref it) .none cenv
def gR (X : Cx) (ω : L2.St) (ps : List Addr) (items : List V) (full : Bool) (W : Nat → Hp → Prop) : Nat → Shared → Shared → Prop := fun n s₀ s₁ => n = 0 ∧ full = true ∧ ∃ H, Inv X (pinsAt ps s₀.heap) ω H s₁ ∧ W items.length H
def gY (X : Cx) (ω : L2.St) (fp ps : List Addr) (tn : Nat → Heap → Prop) (items : List V) (full : Bool) (W : Nat → Hp → Prop) : Protocol := fun n s₀ v s₁ kap =>
  ∃ x, n < items.length ∧ items[items.length - 1 - n]? = some x ∧ RelV x v ∧ Good X ω fp ps tn W (pinsAt ps s₀.heap) (items.length - n) s₁ ∧
    ∀ s'', (full = true ∨ n ≠ 0) → Good X ω fp ps tn W (pinsAt ps s''.heap) (items.length - n) s'' → kap (.send .none) s''
theorem gen_seg (hc : X.calm = true) (he : X.env = cenv) (hxe : X.xe = fun _ _ => False) (hA : X.A = A1.over (gCode tg elt iter scope pos it cenv) []) (T : Turn X.prog X.w X.K tg J fp it tn) (hco : cenv.scope.isCoroutine = false)
    (hF : ∀ {pz : List (Addr × Obj)} {H' : Hp}, (∀ b ∈ fp, H' b = none) → (∀ p ∈ pz, p.1 ∉ fp) → ∀ b ∈ fp, FpOk X pz H' b) (hps : ∀ p ∈ ps, p ∉ fp)
    (pg : PG X tg g) (pe : PE X elt te) (G : GenT vs ω J g te items full W) :
    ∀ (k i : Nat) (s₀ s : Shared), items.length - i = k → i ≤ items.length → (full = true ∨ i < items.length) → Good X ω fp ps tn W (pinsAt ps s₀.heap) i s →
      Seg (model X.prog X.w) A1 (fun n s₀ r s₁ => r = .ok .next ∧ gR X ω ps items full W n s₀ s₁) (gY X ω fp ps tn items full W) k s₀ (gCode tg elt iter scope pos it cenv) ((model X.prog X.w).den (gCode tg elt iter scope pos it cenv)) [] s := by
  subst he
  have pzf : ∀ {h : Heap}, ∀ p ∈ pinsAt ps h, p.1 ∉ fp := fun {h} p hp => hps p.1 (of_pinsAt hp).1
  intro k
  induction k with
  | zero =>
    intro i s₀ s hk hi hfl ⟨H, I, st, fr, w0⟩
    have hin : i = items.length := by omega
    have hfull : full = true := by
      rcases hfl with h | h
      · exact h
      · omega
    subst hin
    show Seg _ A1 _ _ _ s₀ _ ((compTurn (.GeneratorExp elt [⟨tg, iter, [], 0⟩] scope pos) 0 (.ref it) .none X.env).onRaise (leaving X.env)) [] s
    rw [compTurn_gen, Sem.onRaise_eq_wrap]
    refine seg_bind_wrap (wpAny_standAt ?_)
    refine seg_bind_wrap ?_
    rw [← hA]
    refine thnF (T.done X rfl rfl rfl hc _ _ s _ H (fun _ _ => False) I (hF fr pzf) st (G.stop hfull H w0)) fun r s1 ⟨hr, I1⟩ => ?_
    subst hr
    exact seg_end (.ok .next) ⟨rfl, rfl, hfull, H, I1, w0⟩
  | succ k ih =>
    intro i s₀ s hk hi hfl ⟨H, I, st, fr, w0⟩
    have hlt : i < items.length := by omega
    obtain ⟨go, step⟩ := G.turn i H hlt w0
    show Seg _ A1 _ _ _ s₀ _ ((compTurn (.GeneratorExp elt [⟨tg, iter, [], 0⟩] scope pos) 0 (.ref it) .none X.env).onRaise (leaving X.env)) [] s
    rw [compTurn_gen, Sem.onRaise_eq_wrap]
    refine seg_bind_wrap (wpAny_standAt ?_)
    refine seg_bind_wrap ?_
    rw [← hA]
    refine thnF (T.item X rfl rfl rfl hc i _ s _ H (fun _ _ => False) I (hF fr pzf) st go) fun r s1 ⟨u, hr, h1⟩ => ?_
    subst hr
    refine seg_bind_wrap ?_
    rw [← hA]
    refine thnF h1 fun _ s2 ⟨x, H2, I2, r2, y2, st2, fr2⟩ => ?_
    have I2' := I2.pinned (hF fr2 pzf) (T.obj _ _ st2)
    refine seg_bind_wrap ?_
    rw [← hA]
    refine wpAny_mono (pg.run _ s2 _ H2 x u _ I2' r2 (step x H2 y2)) (fun _ s3 ⟨σ3, H3, I3, hw3, q3⟩ => ?_) (fun e s' z => by rw [hxe] at z; exact z.elim)
    refine seg_bind_wrap ?_
    rw [List.forIn_nil]
    refine wpAny_pure ?_
    simp only [if_true]
    have hy : ∀ v, yieldOut X.env v = yieldValue v := fun v => by simp only [yieldOut, hco, Bool.false_eq_true, if_false]
    simp only [hy]
    rw [Sem.bind_eq_wrap', Sem.bind_eq_wrap', Sem.wrap_wrap, Sem.wrap_wrap]
    refine seg_wrap ?_
    rw [← hA]
    refine wpAny_mono (pe.run _ s3 σ3 H3 _ I3 q3) (fun v s4 ⟨y, H4, I4, r4, hy4, w4⟩ => ?_) (fun e s' z => by rw [hxe] at z; exact z.elim)
    -- the turn's end
    have pin' : ∀ b ∈ fp, ∀ o, s2.heap.get? b = some o → s4.heap.get? b = some o ∧ H4 b = none := fun b hb o e =>
      let z := I4.pin (b, o) (List.mem_append_right _ (List.mem_append_right _ (mem_pinsAt hb e)))
      ⟨z.1, z.2.1⟩
    have hl : ω.length = σ3.length := by rw [← hw3, wipe_length]
    have fin : Good X ω fp ps tn W (pinsAt ps s₀.heap) (i + 1) s4 := by
      refine ⟨H4, I4.unpinned.weak hl (fun j v e => ?_), T.keep _ _ _ st2 fun b hb o e => (pin' b hb o e).1, fun b hb => ?_, w4⟩
      · rw [← hw3] at e
        exact (wipe_some e).1
      · obtain ⟨o, e, _⟩ := T.obj _ _ st2 b hb
        exact (pin' b hb o e).2
    have e1 : items.length - 1 - k = i := by omega
    have e2 : items.length - k = i + 1 := by omega
    refine seg_at (seg_yield rfl rfl rfl ⟨y, by omega, by rw [e1]; exact hy4, r4, by rw [e2]; exact fin, fun s'' hfl' hg => ?_⟩)
    rw [e2] at hg
    refine seg_again rfl ?_
    exact ih (i + 1) s'' s'' (by omega) hlt (by rcases hfl' with h | h; exact .inl h; exact .inr (by omega)) hg
end
end Kv

/-! The generator's pulls, all(..), sum(..). -/
namespace Kv
open PySem PySem.Spec PyProof.Rows L2 GenW
theorem inv_setGen {X : Cx} {pins : List (Addr × Obj)} {σ : L2.St} {H : Hp} {s : Shared} {g : Nat} {x : GenState} (I : Inv X pins σ H s) (hx : x.bare = true) : Inv X pins σ H (s.setGen g x) :=
  ⟨I.ok, I.os, allBare_setGen I.bare hx, I.base, I.loc, I.cell, I.free, I.freeC, I.pin, I.hok, I.len⟩
section
variable {X : Cx} {tg elt iter : Expr} {scope : Scope} {pos : Pos} {vs : List Nat} {ω : L2.St} {J : It} {g : TG} {te : TE} {items : List V} {full : Bool} {W : Nat → Hp → Prop} {it : Addr} {fp ps : List Addr} {tn : Nat → Heap → Prop} {A0 A1 : Around}
abbrev sCode (tg elt iter : Expr) (scope : Scope) (pos : Pos) (it : Addr) (cenv : Env) : Code := .compStart (.GeneratorExp elt [⟨tg, iter, [], 0⟩] scope pos) 0 (.ref it) .none cenv
theorem gen_seg0 (hc : X.calm = true) (hxe : X.xe = fun _ _ => False) (hA : X.A = A1.over (gCode tg elt iter scope pos it X.env) []) (T : Turn X.prog X.w X.K tg J fp it tn) (hco : X.env.scope.isCoroutine = false)
    (hF : ∀ {pz : List (Addr × Obj)} {H' : Hp}, (∀ b ∈ fp, H' b = none) → (∀ p ∈ pz, p.1 ∉ fp) → ∀ b ∈ fp, FpOk X pz H' b) (hps : ∀ p ∈ ps, p ∉ fp)
    (pg : PG X tg g) (pe : PE X elt te) (G : GenT vs ω J g te items full W) (s : Shared) (hfl : full = true ∨ 0 < items.length) (h : Good X ω fp ps tn W (pinsAt ps s.heap) 0 s) :
    Seg (model X.prog X.w) A1 (fun n s₀ r s₁ => r = .ok .next ∧ gR X ω ps items full W n s₀ s₁) (gY X ω fp ps tn items full W) items.length s (sCode tg elt iter scope pos it X.env) ((model X.prog X.w).den (sCode tg elt iter scope pos it X.env)) [] s := by
  have loop := gen_seg (iter := iter) (pos := pos) (scope := scope) (ps := ps) hc rfl hxe hA T hco hF hps pg pe G (items.length - 0) 0 s s rfl (Nat.zero_le _) hfl h
  rw [Nat.sub_zero] at loop
  obtain ⟨H, I, st, fr, w0⟩ := h
  show Seg _ A1 _ _ _ s _ ((compStart (.GeneratorExp elt [⟨tg, iter, [], 0⟩] scope pos) 0 (.ref it) .none X.env).onRaise (leaving X.env)) [] s
  unfold compStart
  rw [Sem.onRaise_eq_wrap]
  show Seg _ A1 _ _ _ s _ ((ask >>= _).wrap _ _ _ _) [] s
  refine seg_bind_wrap (wpAny_askSetting ?_)
  split
  · exact seg_again rfl loop
  · first
      | exact seg_bind_wrap (wpAny_rule (seg_bind_wrap (wpAny_standAt (seg_bind_wrap (T.self _ 0 s _ _ st (seg_again rfl loop))))))
      | (refine seg_bind_wrap (wpAny_rule ?_); show Seg _ A1 _ _ _ s _ ((standAt iter.pos >>= _).wrap _ _ _ _) [] s; exact seg_bind_wrap (wpAny_standAt (seg_bind_wrap (T.self _ 0 s _ _ st (seg_again rfl loop)))))
structure GenAt (X : Cx) (A1 : Around) (ω : L2.St) (fp ps : List Addr) (tn : Nat → Heap → Prop) (items : List V) (full : Bool) (W : Nat → Hp → Prop) (a : Addr) (g : Nat) (i : Nat) (s : Shared) : Prop where
  isg : s.heap.IsGen a g
  there : ∀ b ∈ ps, ∃ o, s.heap.get? b = some o ∧ ∀ v, o.data ≠ .cell v
  good : Good X ω fp ps tn W (pinsAt ps s.heap) i s
  goes : (full = true ∨ i < items.length) → ∃ gs, s.gens[g]? = some gs ∧ ∀ s'' : Shared, Good X ω fp ps tn W (pinsAt ps s''.heap) i s'' → gs.Goes (model X.prog X.w) A1 (fun n s₀ r s₁ => r = .ok .next ∧ gR X ω ps items full W n s₀ s₁) (gY X ω fp ps tn items full W) (items.length - i) (.send .none) s''
theorem inv_same {pz : List (Addr × Obj)} {H : Hp} {s s' : Shared} (th : ∀ b ∈ ps, ∃ o, s.heap.get? b = some o ∧ ∀ v, o.data ≠ .cell v) (I : Inv X (pinsAt ps s.heap) ω H s') : ∀ b ∈ ps, s'.heap.get? b = s.heap.get? b := fun b hb => by
  obtain ⟨o, e, _⟩ := th b hb
  rw [e]
  exact (I.pin (b, o) (List.mem_append_right _ (mem_pinsAt hb e))).1
theorem pins_eq {s s' : Shared} (th : ∀ b ∈ ps, ∃ o, s.heap.get? b = some o ∧ ∀ v, o.data ≠ .cell v) (h : ∀ b ∈ ps, s'.heap.get? b = s.heap.get? b) : pinsAt ps s'.heap = pinsAt ps s.heap := pinsAt_same fun b hb => by
  obtain ⟨o, e, _⟩ := th b hb
  exact ⟨o, e, (h b hb).trans e⟩
theorem pull_item {a : Addr} {gn i : Nat} {s : Shared} {Q : Option Value → Shared → Prop} {E : Value → Shared → Prop} (hA : A1 = A0.in1) (hh : A0.handled = none) (hroom : A0.depth < recursionLimit) (ha : a ∈ ps) (hi : i < items.length) (h : GenAt X A1 ω fp ps tn items full W a gn i s)
    (hQ : ∀ u x s', items[i]? = some x → RelV x u → GenAt X A1 ω fp ps tn items full W a gn (i + 1) s' → (∀ b ∈ ps, s'.heap.get? b = s.heap.get? b) → Q (some u) s') : wpAny (model X.prog X.w) A0 (pyNext (.ref a)) Q E s := by
  subst hA
  obtain ⟨isg, th, good, goes⟩ := h
  obtain ⟨gs, hgs, hgo⟩ := goes (.inr hi)
  have hgl : gn < s.gens.size := (Array.getElem?_eq_some_iff.mp hgs).1
  obtain ⟨H, I, st, fr, w0⟩ := good
  obtain ⟨m, hm⟩ : ∃ m, items.length - i = m + 1 := ⟨items.length - i - 1, by omega⟩
  rw [hm] at hgo
  have g1 := hgo (s.setGen gn .running) ⟨H, inv_setGen I rfl, st, fr, w0⟩
  refine wpAny_gsz (n := gn + 1) hgl (wpAny_pyNext_genexpQ hh I.nolimit hroom isg hgs g1 (fun v s₁ gs' hb hv => ?_) (fun s₁ hp h' hk => ?_))
  · intro hsz
    have hsz1 : gn < s₁.gens.size := by
      have q : (s₁.setGen gn gs').gens.size = s₁.gens.size := setGen_size _ _ _
      rw [q] at hsz
      exact hsz
    obtain ⟨x, hx1, hx2, hx3, hx4, hk⟩ := hv
    simp only [Nat.add_sub_cancel] at hx1 hx2 hx4 hk
    have e1 : items.length - 1 - m = i := by omega
    have e2 : items.length - m = i + 1 := by omega
    rw [e1] at hx2
    rw [e2] at hx4 hk
    obtain ⟨H1, I1, st1, fr1, w1⟩ := hx4
    have I1 : Inv X (pinsAt ps s.heap) ω H1 s₁ := I1
    have same := inv_same (pz := []) th I1
    have pe := pins_eq th same
    refine hQ v x _ hx2 hx3 ⟨?_, fun b hb => ?_, ⟨H1, ?_, st1, fr1, w1⟩, fun hfl => ⟨gs', setGen_at hsz1, fun s'' hg => ?_⟩⟩ same
    · obtain ⟨o, nm, qn, ho, r⟩ := isg
      exact ⟨o, nm, qn, (same a ha).trans ho, r⟩
    · obtain ⟨o, e, d⟩ := th b hb
      exact ⟨o, (same b hb).trans e, d⟩
    · show Inv X (pinsAt ps s₁.heap) ω H1 (s₁.setGen gn gs')
      rw [pe]
      exact inv_setGen I1 hb
    · have e3 : items.length - (i + 1) = m := by omega
      rw [e3]
      refine hk s'' ?_ hg
      rcases hfl with z | z
      · exact .inl z
      · exact .inr (by omega)
  · exact absurd hp.1 (Nat.succ_ne_zero m)
theorem pull_end {a : Addr} {gn : Nat} {s : Shared} {Q : Option Value → Shared → Prop} {E : Value → Shared → Prop} (hA : A1 = A0.in1) (hh : A0.handled = none) (hroom : A0.depth < recursionLimit) (ha : a ∈ ps) (hfull : full = true) (h : GenAt X A1 ω fp ps tn items full W a gn items.length s)
    (hQ : ∀ H s', Inv X [] ω H s' → W items.length H → (∀ b ∈ ps, s'.heap.get? b = s.heap.get? b) → Q none s') : wpAny (model X.prog X.w) A0 (pyNext (.ref a)) Q E s := by
  subst hA
  obtain ⟨isg, th, good, goes⟩ := h
  obtain ⟨gs, hgs, hgo⟩ := goes (.inl hfull)
  obtain ⟨H, I, st, fr, w0⟩ := good
  rw [Nat.sub_self] at hgo
  have g1 := hgo (s.setGen gn .running) ⟨H, inv_setGen I rfl, st, fr, w0⟩
  refine wpAny_pyNext_genexpQ hh I.nolimit hroom isg hgs g1 (fun v s₁ gs' hb hv => ?_) (fun s₁ hp h' hk => ?_)
  · obtain ⟨x, hx1, hx2, hx3, hx4, hk⟩ := hv
    rw [Nat.zero_sub, Nat.sub_zero] at hx2
    have z : items.length - 1 < items.length := by rw [Nat.zero_sub] at hx1; omega
    obtain ⟨H1, I1, st1, fr1, w1⟩ := hx4
    have I1 : Inv X (pinsAt ps s.heap) ω H1 s₁ := I1
    have same := inv_same (pz := []) th I1
    have pe := pins_eq th same
    refine False.elim (hk s₁ (.inl hfull) ⟨H1, ?_, st1, fr1, w1⟩)
    rw [pe]
    exact I1
  · obtain ⟨_, _, H1, I1, w1⟩ := hp
    have I1 : Inv X (pinsAt ps s.heap) ω H1 s₁ := I1
    have same := inv_same (pz := []) th I1
    have I2 : Inv X (pinsAt ps s.heap) ω H1 (s₁.setGen gn .finished) := inv_setGen I1 rfl
    have I3 := I2.kept (t' := s₁.toks) hk
    refine hQ H1 _ (I3.pins_of fun p hp => absurd hp (by simp)) w1 fun b hb => ?_
    obtain ⟨o, e, _⟩ := th b hb
    rw [e]
    exact hk b o ((same b hb).trans e)
/-! ### all -/
theorem all_run {a : Addr} {gn : Nat} {A : Around} {R : Result → Shared → Prop} {n : Nat} (hA : A1 = A.in1.in1) (hh : A.handled = none) (hroom : A.depth < recursionLimit) (ha : a ∈ ps) (hl : items.length = if full = true then n else n + 1) (hit : ∀ i, i < items.length → items[i]? = some (.bl (decide (i < n))))
    (hR : ∀ H s', Inv X [] ω H s' → W items.length H → R (.ok (.ret (.bool full))) s') :
    ∀ (k i : Nat) (s : Shared), items.length - i = k → i ≤ items.length → (full = true ∨ i < items.length) → GenAt X A1 ω fp ps tn items full W a gn i s → codeAny (model X.prog X.w) A (.builtin "all.loop" ⟨[.ref a], []⟩) R s := by
  intro k
  induction k with
  | zero =>
    intro i s hk hi hfl h
    have hin : i = items.length := by omega
    have hfull : full = true := by
      rcases hfl with z | z
      · exact z
      · omega
    subst hin
    refine codeAny_builtin F.entry_all_loop ?_
    rw [Around.under_plainId F.plain_all_loop _]
    show wpAny _ A.in1 (pyNext (.ref a) >>= _) _ _ s
    refine wpAny_bind (pull_end hA hh hroom ha hfull h fun H s' I w _ => ?_)
    refine wpAny_bind (wpAny_rule (wpAny_pure ?_))
    have z := hR H s' I w
    rw [hfull] at z
    exact z
  | succ k ih =>
    intro i s hk hi hfl h
    have hlt : i < items.length := by omega
    refine codeAny_builtin F.entry_all_loop ?_
    rw [Around.under_plainId F.plain_all_loop _]
    show wpAny _ A.in1 (pyNext (.ref a) >>= _) _ _ s
    refine wpAny_bind (pull_item hA hh hroom ha hlt h fun u x s' hx rx h' _ => ?_)
    rw [hit i hlt] at hx
    cases hx
    have eu : u = .bool (decide (i < n)) := rx
    subst eu
    refine wpAny_bind (wpAny_holding (wpAny_truthy_bool ?_))
    refine wpAny_bind (wpAny_letGo ?_)
    by_cases hn : i < n
    · simp only [decide_eq_true hn, if_true]
      refine wpAny_pure ⟨plainId_quiet F.plain_all_loop _, ih (i + 1) s' (by omega) hlt ?_ h'⟩
      cases hf : full with
      | true => exact .inl rfl
      | false =>
        rw [hf, if_neg Bool.false_ne_true] at hl
        exact .inr (by omega)
    · have hff : full = false := by
        cases hf : full with
        | true =>
          rw [hf, if_pos rfl] at hl
          omega
        | false => rfl
      simp only [decide_eq_false hn, Bool.false_eq_true, if_false]
      rw [hff, if_neg Bool.false_ne_true] at hl
      have e : i + 1 = items.length := by omega
      obtain ⟨_, _, ⟨H, I, _, _, w0⟩, _⟩ := h'
      rw [e] at w0
      have z := hR H s' (I.pins_of fun p hp => absurd hp (by simp)) w0
      rw [hff] at z
      exact wpAny_bind (wpAny_rule (wpAny_pure z))
end
end Kv

/-! A generator expression, made; all(..), sum(..) of it. -/
namespace Kv
open PySem PySem.Spec PyProof.Rows L2 GenW
section
variable {X : Cx} {pins : List (Addr × Obj)} {σ : L2.St} {H : Hp} {s : Shared} {tg elt iter : Expr} {scope : Scope} {gpos : Pos} {own : List (Str × Nat)}
abbrev gEnvOf (X : Cx) (scope : Scope) (C : Addr) (code : Value) : Env := genEnv scope (cloFrom X.env.cells scope.names []) C code builtinsNs X.env
abbrev gAr (X : Cx) (tg elt iter : Expr) (scope : Scope) (pos : Pos) (it : Addr) (cenv : Env) : Around := X.A.in1.in1.over (gCode tg elt iter scope pos it cenv) []
theorem gAr_frames {it : Addr} {cenv : Env} (h : X.A.frames = some X.stack) : (gAr X tg elt iter scope gpos it cenv).frames = some (cenv :: X.stack) := by
  show pushEnvs [cenv] (pushEnvs [] X.A.frames) = _
  rw [h]
  rfl
theorem gAr_room {k : Nat} {it : Addr} {cenv : Env} (h : Room (k + 1) X.A) : Room k (gAr X tg elt iter scope gpos it cenv) := by
  refine ⟨h.hd, ?_, ?_⟩
  · have := h.dp
    show X.A.depth + 0 + 1 + 3 * k + 5 < _
    omega
  · have := h.un
    show X.A.units + 1 + 1 + 0 + 3 + 16 * k + 200 < _
    omega
/-- the generator, just made -/
structure Made (X : Cx) (pins : List (Addr × Obj)) (σ : L2.St) (tg elt iter : Expr) (scope : Scope) (gpos : Pos) (vs : List Nat) (H2 : Hp) (J : It) (s4 : Shared) (code : Value) (it : Addr) (fp : List Addr) (tn : Nat → Heap → Prop) (a : Addr) (g : Nat) (s5 : Shared) : Prop where
  back : Inv X pins σ H2 s4
  fpok : ∀ b ∈ fp, FpOk X pins H2 b
  turn : Turn X.prog X.w X.K tg J fp it tn
  inv : Inv (gCx X s4 H2 (gEnvOf X scope s4.heap.objs.size code) (gAr X tg elt iter scope gpos it (gEnvOf X scope s4.heap.objs.size code)) fp) [] (wipe σ vs) H2 s5
  isg : s5.heap.IsGen a g
  gen : s5.gens[g]? = some (.fresh (sCode tg elt iter scope gpos it (gEnvOf X scope s4.heap.objs.size code)))
  st : tn 0 s5.heap
  fpa : FpOk (gCx X s4 H2 (gEnvOf X scope s4.heap.objs.size code) (gAr X tg elt iter scope gpos it (gEnvOf X scope s4.heap.objs.size code)) fp) [] H2 a
  afp : a ∉ fp
  acell : ∃ o, s5.heap.get? a = some o ∧ ∀ v, o.data ≠ .cell v
  sz : a < s5.heap.objs.size
theorem genx {c P : Addr} {wi : TI} {k : Nat} {Q' : Value → Shared → Prop} {R : It → Hp → Prop} (hc : X.calm = true) (hN : X.N.Nodup)
    (hr : Room k X.A) (TB : GxR.TabB X.base X.mg c P) (hcode : X.env.code = .ref c) (ok : BlkOk X.N X.env.scope scope own) (hco : scope.isCoroutine = false) (hcell : ∀ y ∈ scope.names, y.2 ≠ .cell) (hdot : scope.names.lookup (".0" : Str) = some NameKind.local)
    (hi : PI X tg iter wi) (hs : ∀ v, genFold iter X.env v = pure v) (I : Inv X pins σ H s) (h : wi σ H fun J H1 => GxR.TabG H1 P ∧ R J H1)
    (hQ : ∀ J H1 H2 s4 code it fp tn a g s5, R J H1 → GxR.Tabbed P H1 H2 → Made X pins σ tg elt iter scope gpos (own.map (·.2)) H2 J s4 code it fp tn a g s5 → Q' (.ref a) s5) :
    wpAny (model X.prog X.w) X.A (eval (.GeneratorExp elt [⟨tg, iter, [], 0⟩] scope gpos) X.env) Q' X.xe s := by
  have hfree : ∀ y ∈ scope.names, y.2 = .free → ∃ c, X.env.cells.lookup y.1 = some c := fun y hy e => by
    rcases ok.free y hy e with k | k
    · exact I.ok.has _ (.inl k)
    · exact I.ok.has _ (.inr k)
  refine wpAny_GeneratorExp_make hco (closure_ok hfree) hcell hdot ok.kind (by have := hr.dp; omega) ?_ hs
  refine thn (hi.run pins s σ H _ I h) fun xv s1 h1 => thn h1 fun itv s2 h2 => ?_
  obtain ⟨it, fp, tn, J, H1, e, I1, T, st1, f1, ⟨ps, hP, ht⟩, q1⟩ := h2
  subst e
  have hPs : s2.heap.get? P = some { cls := .none, data := .fields ps } := I1.hok P _ hP
  have hPlt : P < s2.heap.objs.size := Heap.lt_size hPs
  have cd : PySem.W.CodeHd s2.heap c P := TB.code.keeps fun b u e => I1.bk b u e
  have nfpP : ∀ b ∈ fp, b ≠ P := fun b hb z => by
    have := (f1 b hb).1
    rw [z, hP] at this
    cases this
  have cont : ∀ (code : Value) (h3 : Heap) (tk : Nat) (ps' : Array Value), Heap.ExtBut P s2.heap h3 → s2.heap.objs.size ≤ h3.objs.size → h3.get? P = some { cls := .none, data := .fields ps' } → (∃ more, ps' = ps ++ more) → TriplesOk ps'.toList →
      wpAny (model X.prog X.w) X.A (builtinsFor X.env.globals X.env.builtins) (fun bi s₄ => ∀ h', h'.Ns s₄.heap.objs.size (fun y => if y = ".0" then some (Value.ref it) else none) → Heap.SameBut s₄.heap.objs.size (s₄.heap.push { cls := .type "frame", data := .dict #[] }) h' →
          Q' (.ref h'.objs.size) { s₄ with
            gens := s₄.gens.push (.fresh (.compStart (.GeneratorExp elt [⟨tg, iter, [], 0⟩] scope gpos) 0 (.ref it) .none (genEnv scope (cloFrom X.env.cells scope.names []) s₄.heap.objs.size code bi X.env))),
            toks := s₄.toks + 1 + 1 + 1,
            heap := h'.push { cls := .type "generator", data := .fields #[.int s₄.gens.size 0, .str "<genexpr>" (s₄.toks + 1), .str (X.env.qual ++ "<genexpr>") (s₄.toks + 1 + 1)] } }) X.xe { s2 with heap := h3, toks := tk } := by
    intro code h3 tk ps' hx hsz hP3 hmore ht3
    obtain ⟨bm, ob, e1, e2, e3, e4, e5, e6, e7, e8⟩ := TB.bm
    have keep3 : ∀ b u, b ≠ P → s2.heap.get? b = some u → h3.get? b = some u := fun b u hb e => hx b u hb e
    refine wpAny_builtinsFor (m := X.mg) (by rw [I1.ok.glob]; exact ((I1.mod.glob.keeps I1.bk)).extBut hx TB.gP) e1 e2 (keep3 _ _ e4 (I1.bk _ _ e5)) e6 e7 e8 ?_
    intro h' hn' hs'
    obtain ⟨more, em⟩ := hmore
    have I4 := GxR.inv_tab (more := more) (h' := h3) (g' := s2.gens) (d' := s2.drawn) (t' := tk) I1 hP (fun b u hb e => keep3 b u hb e) (by rw [← em]; exact hP3) I1.bare
    have I4 : Inv X pins σ (upd H1 P (.tbl (ps ++ more))) { s2 with heap := h3, toks := tk } := I4
    have hH2 : GxR.Tabbed P H1 (upd H1 P (.tbl (ps ++ more))) := ⟨⟨ps ++ more, upd_same, by rw [← em]; exact ht3⟩, fun b hb => upd_ne hb⟩
    generalize upd H1 P (.tbl (ps ++ more)) = H2 at I4 hH2
    generalize hs4 : ({ s2 with heap := h3, toks := tk } : Shared) = s4 at I4 hn' hs' ⊢
    have eh : s4.heap = h3 := by rw [← hs4]
    have f4 : ∀ b ∈ fp, FpOk X pins H2 b ∧ b < s4.heap.objs.size := fun b hb => by
      obtain ⟨o, eo, _⟩ := T.obj _ _ st1 b hb
      have hlt := Heap.lt_size eo
      refine ⟨⟨?_, (f1 b hb).2⟩, by rw [eh]; exact Nat.lt_of_lt_of_le hlt hsz⟩
      rw [hH2.2 b (nfpP b hb)]
      exact (f1 b hb).1
    have keep' : ∀ b o, s4.heap.get? b = some o → h'.get? b = some o := fun b o e => hs'.extBut b o (Nat.ne_of_lt (Heap.lt_size e)) (Heap.get?_push_of_some _ e)
    have hsz' : h'.objs.size = s4.heap.objs.size + 1 := by rw [hs'.1, Heap.size_push]
    have I5 := gen_start (code := code) (s' := { s4 with heap := h' }) (A' := gAr X tg elt iter scope gpos it (gEnvOf X scope s4.heap.objs.size code)) I4 ok hN hcell f4 hr.hd (gAr_frames I4.ok.frames) hn' keep' rfl I4.bare
    have na : H2 h'.objs.size = none := I5.hok.fresh (Nat.le_refl _)
    have fa := I5.fpOk (b := h'.objs.size) (H' := H2) (Nat.le_refl _) na
    have keep5 : ∀ b o, h'.get? b = some o → (h'.push { cls := .type "generator", data := .fields #[.int s4.gens.size 0, .str "<genexpr>" (s4.toks + 1), .str (X.env.qual ++ "<genexpr>") (s4.toks + 1 + 1)] }).get? b = some o := fun b o e => Heap.get?_push_of_some _ e
    have I6 := I5.kept (t' := s4.toks + 1 + 1 + 1) keep5
    have st4 : tn 0 h' := T.keep _ _ _ st1 fun b hb o e => keep' b o (by rw [eh]; exact keep3 b o (nfpP b hb) e)
    have afp : h'.objs.size ∉ fp := fun z => absurd (f4 _ z).2 (by rw [hsz']; exact Nat.not_lt.mpr (Nat.le_succ _))
    refine hQ J H1 H2 s4 code it fp tn h'.objs.size s4.gens.size _ q1 hH2 ⟨I4, fun b hb => (f4 b hb).1, T, ?_, ⟨_, _, _, Heap.get?_push_size _ rfl, rfl, rfl, rfl⟩, Array.getElem?_push_size .., T.keep _ _ _ st4 fun b hb o e => keep5 b o e, fa, afp, ⟨_, Heap.get?_push_size _ rfl, fun v z => by
      have z' : Data.fields _ = Data.cell v := z
      cases z'⟩, by rw [Heap.size_push]; exact Nat.lt_succ_self _⟩
    exact ⟨I6.ok, I6.os, I6.bare.push rfl, I6.base, I6.loc, I6.cell, I6.free, I6.freeC, I6.pin, I6.hok, I6.len⟩
  refine ⟨I1.nolimit, ?_⟩
  cases hf : codeAmong gpos ps.toList with
  | none =>
    refine wpAny_genexprCodeX hcode (cd.code hPs ht) (cd.tab hPs) hf fun c' h' tk hx hge hlt hco' _ htab' _ => ?_
    obtain ⟨o1, vs, f1, tf, fl, tg, inF, tx, tt, op, _, _, _, _, _, _, _, _, _, htr, _⟩ := hco'
    exact cont _ h' tk _ hx (Nat.le_trans hge (Nat.le_of_lt hlt)) htab'.2 ⟨_, rfl⟩ htr
  | some cv =>
    refine wpAny_genexprCode_hit hcode (cd.code hPs ht) hf ?_
    exact cont cv s2.heap s2.toks ps (Heap.ExtBut.refl _ _) (Nat.le_refl _) hPs ⟨#[], by simp⟩ ht
end
end Kv

/-! all(..), sum(..) of a generator expression. -/
namespace Kv
open PySem PySem.Spec PyProof.Rows L2 GenW
section
variable {X : Cx} {tg elt iter : Expr} {scope : Scope} {pos : Pos} {vs : List Nat} {ω : L2.St} {J : It} {g : TG} {te : TE} {items : List V} {full : Bool} {W : Nat → Hp → Prop} {it : Addr} {fp ps : List Addr} {tn : Nat → Heap → Prop} {A1 : Around}
theorem gen_at {a : Addr} {gn : Nat} {H : Hp} {s : Shared} (hc : X.calm = true) (hxe : X.xe = fun _ _ => False) (hpn : X.pn = []) (hA : X.A = A1.over (gCode tg elt iter scope pos it X.env) []) (T : Turn X.prog X.w X.K tg J fp it tn) (hco : X.env.scope.isCoroutine = false) (hex : X.ex = fp)
    (pg : PG X tg g) (pe : PE X elt te) (G : GenT vs ω J g te items full W) (hps : ∀ p ∈ ps, p ∉ fp) (hpo : ∀ p ∈ ps, FpOk X [] H p ∧ ∃ o, s.heap.get? p = some o ∧ ∀ v, o.data ≠ .cell v)
    (hfl : full = true ∨ 0 < items.length) (I : Inv X [] ω H s) (isg : s.heap.IsGen a gn) (gen : s.gens[gn]? = some (.fresh (sCode tg elt iter scope pos it X.env))) (st : tn 0 s.heap) (fr : ∀ b ∈ fp, H b = none) (w0 : W 0 H) : GenAt X A1 ω fp ps tn items full W a gn 0 s := by
  have hF : ∀ {pz : List (Addr × Obj)} {H' : Hp}, (∀ b ∈ fp, H' b = none) → (∀ p ∈ pz, p.1 ∉ fp) → ∀ b ∈ fp, FpOk X pz H' b := fun {pz H'} hn hpz b hb => by
    have hb' : b ∈ X.ex := by rw [hex]; exact hb
    refine ⟨hn b hb, (I.ok.exf b hb').1, I.ok.exfs b hb', .inl hb', fun x c e => (I.ok.exf b hb').2 x c e, fun p hp z => ?_⟩
    rw [hpn, List.nil_append] at hp
    exact hpz p hp (z ▸ hb)
  refine ⟨isg, fun b hb => (hpo b hb).2, ⟨H, (I.pinned (fun b hb => (hpo b hb).1) (fun b hb => (hpo b hb).2)), st, fr, w0⟩, fun _ => ⟨_, gen, fun s'' hg => ⟨rfl, ?_⟩⟩⟩
  exact gen_seg0 hc hxe hA T hco hF hps pg pe G s'' hfl hg
/-- one of the things that stay changed -/
theorem GenAt.write {a S : Addr} {gn i : Nat} {s : Shared} {h' : Heap} {t' : Nat} {o2 : Obj} (hpn : X.pn = []) (h : GenAt X A1 ω fp ps tn items full W a gn i s) (T : Turn X.prog X.w X.K tg J fp it tn) (hS : S ∈ ps) (hSa : S ≠ a) (hSf : S ∉ fp) (hS0 : X.s_0.heap.objs.size ≤ S)
    (k : ∀ b o, b ≠ S → s.heap.get? b = some o → h'.get? b = some o) (e2 : h'.get? S = some o2) (d2 : ∀ v, o2.data ≠ .cell v) : GenAt X A1 ω fp ps tn items full W a gn i { s with heap := h', toks := t' } := by
  obtain ⟨isg, th, ⟨H, I, st, fr, w0⟩, goes⟩ := h
  obtain ⟨oS, eS, dS⟩ := th S hS
  have pS := I.pin (S, oS) (List.mem_append_right _ (mem_pinsAt hS eS))
  have I0 : Inv X [] ω H s := I.pins_of fun p hp => absurd hp (by simp)
  have fS : FpOk X [] H S := by
    refine ⟨pS.2.1, pS.2.2.1, pS.2.2.2.1, .inr hS0, fun x c e z => ?_, fun p hp => ?_⟩
    · obtain ⟨v, o, q1, q2⟩ := I.cell x c e
      subst z
      rw [eS] at q1
      cases q1
      exact dS _ (by first | exact q2 | exact q2.1 | exact q2.2)
    · rw [hpn] at hp
      exact absurd hp (by simp)
  obtain ⟨f0, f1, f2, f3, f4, f5⟩ := fS
  have I1 : Inv X [] ω H { s with heap := h', toks := t' } := I0.turned (fun b o hb e => k b o hb e) f0 f1 f3 f4 f5
  refine ⟨?_, fun b hb => ?_, ⟨H, I1.pins_of fun p hp => ?_, T.keep _ _ _ st fun b hb o e => k b o (fun z => hSf (z ▸ hb)) e, fr, w0⟩, goes⟩
  · obtain ⟨o, nm, qn, ho, r⟩ := isg
    exact ⟨o, nm, qn, k a o (Ne.symm hSa) ho, r⟩
  · by_cases z : b = S
    · subst z; exact ⟨o2, e2, d2⟩
    · obtain ⟨o, e, d⟩ := th b hb
      exact ⟨o, k b o z e, d⟩
  · obtain ⟨hm, e⟩ := of_pinsAt hp
    have e : h'.get? p.1 = some p.2 := e
    obtain ⟨oP, eP, dP⟩ := th p.1 hm
    have pP := I.pin (p.1, oP) (List.mem_append_right _ (mem_pinsAt hm eP))
    refine ⟨e, pP.2.1, pP.2.2.1, pP.2.2.2.1, ?_⟩
    by_cases z : p.1 = S
    · rw [z, e2] at e
      cases e
      exact d2
    · rw [k _ _ z eP] at e
      cases e
      exact dP
/-! ### sum -/
def valOf (is : List Int) (j : Nat) : Int := match is[j]? with
  | some k => k
  | none => 0
abbrev sumObj (x : Int) (t : Tok) (c : Nat) : Obj := { cls := .type "list", dict := none, data := .seq #[.int x t] c, slots := #[] }
theorem sum_run {a S : Addr} {gn : Nat} {A : Around} {R : Result → Shared → Prop} {is : List Int} (hpn : X.pn = []) (hA : A1 = A.in1.in1) (hh : A.handled = none) (hroom : A.depth < recursionLimit) (ha : a ∈ ps) (hfull : full = true) (hit : items = is.map V.int) (T : Turn X.prog X.w X.K tg J fp it tn) (hS : S ∈ ps) (hSa : S ≠ a) (hSf : S ∉ fp) (hS0 : X.s_0.heap.objs.size ≤ S)
    (hR : ∀ H s' t, Inv X [] ω H s' → W items.length H → R (.ok (.ret (.int (preSum (valOf is) is.length) t))) s') :
    ∀ (k i : Nat) (s : Shared) (tA : Tok) (c : Nat) (st : Int), (st = 0 ∨ st = 2) → items.length - i = k → i ≤ items.length → s.heap.get? S = some (sumObj (preSum (valOf is) i) tA c) → GenAt X A1 ω fp ps tn items full W a gn i s → codeAny (model X.prog X.w) A (.builtin "sum.loop" ⟨[.ref a, .ref S, rawInt st, rawInt 0], []⟩) R s := by
  have hlen : items.length = is.length := by rw [hit, List.length_map]
  have nc : ∀ (x : Int) (t : Tok) (c : Nat) (v : Option Value), (sumObj x t c).data ≠ .cell v := fun x t c v z => by cases z
  intro k
  induction k with
  | zero =>
    intro i s tA c st hst hk hi hS1 h
    have hin : i = items.length := by omega
    subst hin
    refine codeAny_builtin F.entry_sum_loop ?_
    rw [Around.under_plainId F.plain_sum_loop _]
    show wpAny _ A.in1 (seqItems? (.ref S) >>= _) _ _ s
    refine wpAny_bind (wpAny_seqItems hS1 rfl ?_)
    show wpAny _ A.in1 (tryCatch (pyNext (.ref a)) _ >>= _) _ _ s
    refine wpAny_bind (wpAny_tryCatch (pull_end hA hh hroom ha hfull h fun H s' I w _ => ?_))
    have z := hR H s' tA I w
    rw [← hlen] at z
    exact wpAny_pure z
  | succ k ih =>
    intro i s tA c st hst2 hk hi hS1 h
    have hlt : i < items.length := by omega
    refine codeAny_builtin F.entry_sum_loop ?_
    rw [Around.under_plainId F.plain_sum_loop _]
    show wpAny _ A.in1 (seqItems? (.ref S) >>= _) _ _ s
    refine wpAny_bind (wpAny_seqItems hS1 rfl ?_)
    show wpAny _ A.in1 (tryCatch (pyNext (.ref a)) _ >>= _) _ _ s
    refine wpAny_bind (wpAny_tryCatch (pull_item hA hh hroom ha hlt h fun u x s' hx rx h' same => ?_))
    have hv : x = .int (valOf is i) := by
      rw [hit, List.getElem?_map] at hx
      unfold valOf
      cases e : is[i]? with
      | none => rw [e] at hx; cases hx
      | some k => rw [e] at hx; cases hx; rfl
    subst hv
    obtain ⟨t, rfl⟩ := rx
    have wr : ∀ (h2 : Heap) (t2 : Nat) (o2 : Obj), (∀ b o, b ≠ S → s'.heap.get? b = some o → h2.get? b = some o) → h2.get? S = some o2 → (∀ v, o2.data ≠ .cell v) → GenAt X A1 ω fp ps tn items full W a gn (i + 1) { s' with heap := h2, toks := t2 } := fun h2 t2 o2 k1 k2 k3 => h'.write hpn T hS hSa hSf hS0 k1 k2 k3
    have hS' : s'.heap.get? S = some (sumObj (preSum (valOf is) i) tA c) := (same S hS).trans hS1
    rcases hst2 with rfl | rfl
    · show wpAny _ A.in1 (if (_ : Bool) = true then (mkInt (preSum (valOf is) i + valOf is i) >>= _) else _) _ _ _
      split
      · refine wpAny_bind (wpAny_mkInt ?_)
        show wpAny _ A.in1 (updateSeq S (fun _ => #[.int (preSum (valOf is) i + valOf is i) s'.toks]) >>= _) _ _ _
        refine wpAny_bind ?_
        refine wpAny_updateSeq hS' rfl (wpAny_pure ⟨plainId_quiet F.plain_sum_loop _, ih (i + 1) _ s'.toks _ 0 (.inl rfl) (by omega) hlt (Heap.get?_update_self _ hS' rfl) (wr _ _ _ (fun b o hb e => (Heap.get?_update_other _ _ (Ne.symm hb)).trans e) (Heap.get?_update_self _ hS' rfl) (nc _ _ _))⟩)
      · refine wpAny_bind (wpAny_rule ?_)
        refine wpAny_bind (wpAny_attempt (wpAny_holding (wpAny_add_int ?_)))
        show wpAny _ A.in1 (updateSeq S (fun _ => #[.int (preSum (valOf is) i + valOf is i) s'.toks]) >>= _) _ _ _
        refine wpAny_bind (wpAny_updateSeq hS' rfl ?_)
        have hS₂ := Heap.get?_update_self (Obj.mapSeq fun _ => #[Value.int (preSum (valOf is) i + valOf is i) s'.toks]) hS' rfl
        refine wpAny_bind (wpAny_letGo ?_)
        refine wpAny_bind (wpAny_updateSeq hS₂ rfl (wpAny_pure ⟨plainId_quiet F.plain_sum_loop _, ih (i + 1) _ s'.toks _ 2 (.inr rfl) (by omega) hlt (Heap.get?_update_self _ hS₂ rfl) (wr _ _ _ (fun b o hb e => (Heap.get?_update_other _ _ (Ne.symm hb)).trans ((Heap.get?_update_other _ _ (Ne.symm hb)).trans e)) (Heap.get?_update_self _ hS₂ rfl) (nc _ _ _))⟩))
    · show wpAny _ A.in1 ((holding [Value.int (valOf is i) t] (binaryOp .Add (.int (preSum (valOf is) i) tA) (.int (valOf is i) t))).attempt >>= _) _ _ _
      refine wpAny_bind (wpAny_attempt (wpAny_holding (wpAny_add_int ?_)))
      show wpAny _ A.in1 (updateSeq S (fun _ => #[.int (preSum (valOf is) i + valOf is i) s'.toks]) >>= _) _ _ _
      refine wpAny_bind (wpAny_updateSeq hS' rfl ?_)
      have hS₂ := Heap.get?_update_self (Obj.mapSeq fun _ => #[Value.int (preSum (valOf is) i + valOf is i) s'.toks]) hS' rfl
      refine wpAny_bind (wpAny_letGo ?_)
      refine wpAny_bind (wpAny_updateSeq hS₂ rfl (wpAny_pure ⟨plainId_quiet F.plain_sum_loop _, ih (i + 1) _ s'.toks _ 2 (.inr rfl) (by omega) hlt (Heap.get?_update_self _ hS₂ rfl) (wr _ _ _ (fun b o hb e => (Heap.get?_update_other _ _ (Ne.symm hb)).trans ((Heap.get?_update_other _ _ (Ne.symm hb)).trans e)) (Heap.get?_update_self _ hS₂ rfl) (nc _ _ _))⟩))
end
section
variable {X : Cx} {tg elt iter : Expr} {scope : Scope} {gpos p pos : Pos} {own : List (Str × Nat)}
def tAllG (P : Addr) (wi : TI) (g : TG) (te : TE) (vs : List Nat) : TE := fun σ H Q => wi σ H fun J H1 => GxR.TabG H1 P ∧ ∀ H2, GxR.Tabbed P H1 H2 → ∃ (items : List V) (n : Nat) (full : Bool) (W : Nat → Hp → Prop),
  GenT vs (wipe σ vs) J g te items full W ∧ items.length = (if full = true then n else n + 1) ∧ (∀ i, i < items.length → items[i]? = some (.bl (decide (i < n)))) ∧ W 0 H2 ∧ ∀ H3, W items.length H3 → Q (.bl full) H3
def tSumG (P : Addr) (wi : TI) (g : TG) (te : TE) (vs : List Nat) : TE := fun σ H Q => wi σ H fun J H1 => GxR.TabG H1 P ∧ ∀ H2, GxR.Tabbed P H1 H2 → ∃ (is : List Int) (W : Nat → Hp → Prop),
  GenT vs (wipe σ vs) J g te (is.map V.int) true W ∧ W 0 H2 ∧ ∀ H3, W (is.map V.int).length H3 → Q (.int (preSum (valOf is) is.length)) H3
theorem pe_allG {c P : Addr} {wi : TI} {g : TG} {te : TE} {k : Nat} (hc : X.calm = true) (hN : X.N.Nodup)
    (hr : Room (k + 1) X.A) (hg : Gl X "all") (hm : X.mg "all" = none) (hb : bootBuiltins "all" = some (.builtin "all")) (TB : GxR.TabB X.base X.mg c P) (hcode : X.env.code = .ref c) (ok : BlkOk X.N X.env.scope scope own) (hco : scope.isCoroutine = false) (hcell : ∀ y ∈ scope.names, y.2 ≠ .cell) (hdot : scope.names.lookup (".0" : Str) = some NameKind.local)
    (hi : PI X tg iter wi) (hpg : ∀ (s : Shared) (H : Hp) (C : Addr) (code : Value) (A' : Around) (fp : List Addr), PG (gCx X s H (gEnvOf X scope C code) A' fp) tg g) (hpe : ∀ (s : Shared) (H : Hp) (C : Addr) (code : Value) (A' : Around) (fp : List Addr), Room k A' → PE (gCx X s H (gEnvOf X scope C code) A' fp) elt te)
    (hs : ∀ v, genFold iter X.env v = pure v) (he : starEach [.GeneratorExp elt [⟨tg, iter, [], 0⟩] scope gpos] X.env = (false, eval (.GeneratorExp elt [⟨tg, iter, [], 0⟩] scope gpos) X.env) :: starEach [] X.env := by rfl) :
    PE X (.Call (.Name "all" p) [.GeneratorExp elt [⟨tg, iter, [], 0⟩] scope gpos] [] pos) (tAllG P wi g te (own.map (·.2))) := by
  refine ⟨fun pins s σ H Q I h => ?_⟩
  refine wpAny_Call_Name_kw (ld_blt I hg hm hb ?_)
  refine PyProof.Rows.callWith_builtin1 ?_ he (by rfl)
  rw [he]
  show wpAny _ _ (spliced ((false, eval (.GeneratorExp elt [⟨tg, iter, [], 0⟩] scope gpos) X.env) :: backTo pos (starEach [] X.env))) _ _ s
  refine Calls.spliced_cons (genx hc hN (hr.mono (Nat.le_succ k)) TB hcode ok hco hcell hdot hi hs I h fun J H1 H2 s4 code it fp tn a gn s5 hR hT M => ?_)
  refine Calls.spliced_nil ?_
  obtain ⟨items, n, full, W, G, hl, hit, w0, hQ⟩ := hR H2 hT
  have hfr : ∀ b ∈ fp, H2 b = none := fun b hb => (M.fpok b hb).1
  have hfl : full = true ∨ 0 < items.length := by
    cases full with
    | true => exact .inl rfl
    | false =>
      rw [if_neg Bool.false_ne_true] at hl
      exact .inr (by omega)
  have at0 := gen_at (ps := [a]) (pos := gpos) (iter := iter) (scope := scope) (A1 := X.A.in1.in1) (X := gCx X s4 H2 (gEnvOf X scope s4.heap.objs.size code) (gAr X tg elt iter scope gpos it (gEnvOf X scope s4.heap.objs.size code)) fp) hc rfl rfl rfl M.turn hco rfl (hpg _ _ _ _ _ _) (hpe _ _ _ _ _ _ (gAr_room hr)) G
    (fun p hp => by rw [List.mem_singleton.mp hp]; exact M.afp) (fun p hp => by rw [List.mem_singleton.mp hp]; exact ⟨M.fpa, M.acell⟩) hfl M.inv M.isg M.gen M.st hfr w0
  refine call_function_tree F.kind_all F.plain_all F.entry_all (F.args_all1 _) ?_
  unfold Builtin.«all»
  refine wpAny_bind (m := oneArg "all" _) (wpAny_pure ?_)
  refine wpAny_bind (wpAny_pyIter_gen M.isg ?_)
  refine wpAny_pure ⟨plainId_quiet F.plain_all_loop _, all_run (X := gCx X s4 H2 (gEnvOf X scope s4.heap.objs.size code) (gAr X tg elt iter scope gpos it (gEnvOf X scope s4.heap.objs.size code)) fp) (A := X.A) (n := n) rfl hr.hd (by have := hr.dp; omega) List.mem_cons_self hl hit (fun H3 s' I3 w3 => ?_) _ 0 s5 rfl (Nat.zero_le _) hfl at0⟩
  have I7 : Inv X pins σ H3 s' := M.back.call' (ch := fp) I3.os I3.base I3.hok I3.bare fun b hb => ⟨(M.fpok b hb).2.2.2.1, (M.fpok b hb).2.1, (M.fpok b hb).2.2.2.2.1, (M.fpok b hb).2.2.2.2.2⟩
  exact ⟨.bl full, H3, I7, rfl, hQ H3 w3⟩
theorem pe_sumG {c P : Addr} {wi : TI} {g : TG} {te : TE} {k : Nat} (hc : X.calm = true) (hN : X.N.Nodup)
    (hr : Room (k + 1) X.A) (hg : Gl X "sum") (hm : X.mg "sum" = none) (hb : bootBuiltins "sum" = some (.builtin "sum")) (TB : GxR.TabB X.base X.mg c P) (hcode : X.env.code = .ref c) (ok : BlkOk X.N X.env.scope scope own) (hco : scope.isCoroutine = false) (hcell : ∀ y ∈ scope.names, y.2 ≠ .cell) (hdot : scope.names.lookup (".0" : Str) = some NameKind.local)
    (hi : PI X tg iter wi) (hpg : ∀ (s : Shared) (H : Hp) (C : Addr) (code : Value) (A' : Around) (fp : List Addr), PG (gCx X s H (gEnvOf X scope C code) A' fp) tg g) (hpe : ∀ (s : Shared) (H : Hp) (C : Addr) (code : Value) (A' : Around) (fp : List Addr), Room k A' → PE (gCx X s H (gEnvOf X scope C code) A' fp) elt te)
    (hs : ∀ v, genFold iter X.env v = pure v) (he : starEach [.GeneratorExp elt [⟨tg, iter, [], 0⟩] scope gpos] X.env = (false, eval (.GeneratorExp elt [⟨tg, iter, [], 0⟩] scope gpos) X.env) :: starEach [] X.env := by rfl) :
    PE X (.Call (.Name "sum" p) [.GeneratorExp elt [⟨tg, iter, [], 0⟩] scope gpos] [] pos) (tSumG P wi g te (own.map (·.2))) := by
  refine ⟨fun pins s σ H Q I h => ?_⟩
  refine wpAny_Call_Name_kw (ld_blt I hg hm hb ?_)
  refine PyProof.Rows.callWith_builtin1 ?_ he (by rfl)
  rw [he]
  show wpAny _ _ (spliced ((false, eval (.GeneratorExp elt [⟨tg, iter, [], 0⟩] scope gpos) X.env) :: backTo pos (starEach [] X.env))) _ _ s
  refine Calls.spliced_cons (genx hc hN (hr.mono (Nat.le_succ k)) TB hcode ok hco hcell hdot hi hs I h fun J H1 H2 s4 code it fp tn a gn s5 hR hT M => ?_)
  refine Calls.spliced_nil ?_
  obtain ⟨is, W, G, w0, hQ⟩ := hR H2 hT
  have hfr : ∀ b ∈ fp, H2 b = none := fun b hb => (M.fpok b hb).1
  have I5 := M.inv
  generalize hS : s5.heap.objs.size = S
  have hSn : H2 S = none := I5.hok.fresh (Nat.le_of_eq hS)
  have fS := I5.fpOk (b := S) (H' := H2) (Nat.le_of_eq hS) hSn
  have hSf : S ∉ fp := fun z => by
    obtain ⟨o, e, _⟩ := M.turn.obj _ _ M.st S z
    have := Heap.lt_size e
    rw [← hS] at this
    exact Nat.lt_irrefl _ this
  have hSa : S ≠ a := fun z => by
    have := M.sz
    rw [hS, z] at this
    exact Nat.lt_irrefl _ this
  refine call_function_tree F.kind_sum F.plain_sum F.entry_sum (F.args_sum1 _) ?_
  unfold Builtin.«sum»
  simp only [List.length_cons, List.length_nil]
  rw [if_neg (by decide)]
  refine wpAny_bind (wpAny_of_eq (show Builtin.Builtins.bindParams "sum" ["start"] 0 { } = pure [none] from rfl) ?_)
  refine wpAny_bind (wpAny_pyIter_gen M.isg ?_)
  refine wpAny_bind (wpAny_mkInt ?_)
  refine wpAny_bind (wpAny_pure ?_)
  simp only [List.forIn_cons, List.forIn_nil]
  refine wpAny_bind (wpAny_bind (wpAny_bind (wpAny_isInstance (T := "int") (b := false) (typeIs_int _ _ _) PySem.sub_int_str ?_)))
  simp only [Bool.false_eq_true, if_false]
  refine wpAny_pure (wpAny_bind (wpAny_bind (wpAny_isInstance (T := "int") (b := false) (typeIs_int _ _ _) PySem.sub_int_bytes ?_)))
  simp only [Bool.false_eq_true, if_false]
  refine wpAny_pure (wpAny_bind (wpAny_bind (wpAny_isInstance (T := "int") (b := false) (typeIs_int _ _ _) PySem.sub_int_bytearray ?_)))
  simp only [Bool.false_eq_true, if_false]
  refine wpAny_pure (wpAny_pure ?_)
  refine wpAny_bind (wpAny_newObj_type ?_)
  have keep : ∀ b o, s5.heap.get? b = some o → (s5.heap.push { cls := .type "list", data := .seq #[.int 0 s5.toks] }).get? b = some o := fun b o e => Heap.get?_push_of_some _ e
  have I6 := I5.kept (t' := s5.toks + 1) keep
  have gS : (s5.heap.push { cls := .type "list", data := .seq #[.int 0 s5.toks] }).get? S = some (sumObj 0 s5.toks 0) := by rw [← hS]; exact Heap.get?_push_size _ rfl
  obtain ⟨oa, ea, da⟩ := M.acell
  have at0 := gen_at (ps := [a, S]) (pos := gpos) (iter := iter) (scope := scope) (A1 := X.A.in1.in1) (full := true) (X := gCx X s4 H2 (gEnvOf X scope s4.heap.objs.size code) (gAr X tg elt iter scope gpos it (gEnvOf X scope s4.heap.objs.size code)) fp) hc rfl rfl rfl M.turn hco rfl (hpg _ _ _ _ _ _) (hpe _ _ _ _ _ _ (gAr_room hr)) G
    (fun p hp => by
      rcases List.mem_cons.mp hp with z | z
      · rw [z]; exact M.afp
      · rw [List.mem_singleton.mp z]; exact hSf)
    (fun p hp => by
      rcases List.mem_cons.mp hp with z | z
      · rw [z]; exact ⟨M.fpa, oa, keep _ _ ea, da⟩
      · rw [List.mem_singleton.mp z]; exact ⟨fS, _, gS, fun v q => by cases q⟩) (.inl rfl) I6 (M.isg.keeps keep) M.gen (M.turn.keep _ _ _ M.st fun b _ o e => keep b o e) hfr w0
  rw [hS]
  refine wpAny_pure ⟨plainId_quiet F.plain_sum_loop _, sum_run (X := gCx X s4 H2 (gEnvOf X scope s4.heap.objs.size code) (gAr X tg elt iter scope gpos it (gEnvOf X scope s4.heap.objs.size code)) fp) (A := X.A) (S := S) (is := is) rfl rfl hr.hd (by have := hr.dp; omega) List.mem_cons_self rfl rfl M.turn (by simp) hSa hSf ?_ (fun H3 s' t I3 w3 => ?_) _ 0 _ s5.toks 0 0 (.inl rfl) rfl (Nat.zero_le _) gS at0⟩
  · have z := I5.sz
    rw [hS] at z
    exact z
  · have I7 : Inv X pins σ H3 s' := M.back.call' (ch := fp) I3.os I3.base I3.hok I3.bare fun b hb => ⟨(M.fpok b hb).2.2.2.1, (M.fpok b hb).2.1, (M.fpok b hb).2.2.2.2.1, (M.fpok b hb).2.2.2.2.2⟩
    exact ⟨.int _, H3, I7, ⟨t, rfl⟩, hQ H3 w3⟩
end
end Kv

/-! Shallow: all, sum, comprehensions. -/
namespace Kv
open PySem PySem.Spec PyProof.Rows L2 GenW
abbrev E0 : XK := fun _ _ _ => False
/-- the least reading that a function's meaning needs -/
def canT (K : PySem.W.Frag) (M : Mo) (E : XK) (f : EF) : TE := fun σ H Q => ∃ r S en, RE K r H en σ ∧ RS K M r S H ∧ Post (RD K) K M r H Q E (f en S)
def canG (K : PySem.W.Frag) (M : Mo) (vs : List Nat) (g : GF) : TG := fun v σ H Q => ∃ r S en en' d, RE K r H en σ ∧ RS K M r S H ∧ RD K r H d v ∧ g d en S = some en' ∧ ∀ σ', RE K r H en' σ' → Ch vs σ σ' → Q σ' H
section
variable {X : Cx} {M : Mo} {E : XK}
theorem SE.can {e : Expr} {f : EF} (h : SE X M E e f) : PE X e (canT X.K M E f) := by
  obtain ⟨t, p, q⟩ := h
  exact ⟨fun pins s σ H Q I ⟨r, S, en, h1, h2, h3⟩ => p.run pins s σ H Q I (q r S en σ H Q h1 h2 h3)⟩
theorem SG.can {vs : List Nat} {e : Expr} {g : GF} (h : SG X M vs e g) : PG X e (canG X.K M vs g) := by
  obtain ⟨t, p, q⟩ := h
  exact ⟨fun pins s σ H v u Q I rv ⟨r, S, en, en', d, h1, h2, h3, h4, h5⟩ => p.run pins s σ H v u Q I rv (q r S en en' σ H d v Q h1 h2 h3 h4 h5)⟩
def wipeN : En → List Nat → En
  | e, [] => e
  | e, v :: vs => setN (wipeN e vs) v none
theorem RE.wipe {K : PySem.W.Frag} {r : List Addr} {H : Hp} {e : En} {σ : L2.St} (h : RE K r H e σ) : ∀ vs : List Nat, RE K r H (wipeN e vs) (L2.wipe σ vs)
  | [] => h
  | v :: vs => by
    have ih := RE.wipe h vs
    unfold wipeN L2.wipe
    rw [setN_eq]
    refine ⟨by rw [List.length_set, List.length_set]; exact ih.len, fun j d z => ?_⟩
    by_cases hj : v = j
    · subst hj
      have hl : v < (wipeN e vs).length := by
        have := (List.getElem?_eq_some_iff.mp z).1
        simpa using this
      rw [List.getElem?_set_self hl] at z
      cases z
    · rw [List.getElem?_set_ne hj] at z ⊢
      exact ih.at_ j d z
/-- the def's table grew -/
theorem RS.tabbed {K : PySem.W.Frag} {r : List Addr} {S : Sto} {H H2 : Hp} {P : Addr} (R : RS K M r S H) (hP : P ∈ M.tb) (hlt : ∀ q ∈ M.lt, q.1 ≠ P) (h : GxR.Tabbed P H H2) : RS K M r S H2 ∧ Grow r H r H2 := by
  obtain ⟨ps, hp, _⟩ := R.tab P hP
  have nt : ∀ a u, H a = some u → (∀ ps, u ≠ .tbl ps) → H2 a = some u := fun a u e n => by
    rw [h.2 a fun z => ?_]
    · exact e
    · rw [z, hp] at e
      cases e
      exact n _ rfl
  have l : Leaves M H H2 := by
    refine ⟨nt, fun P' hP' t => ?_, fun t => ?_⟩
    · by_cases z : P' = P
      · rw [z]; exact h.1
      · obtain ⟨qs, e, t2⟩ := t
        exact ⟨qs, by rw [h.2 _ z]; exact e, t2⟩
    · intro q hq
      obtain ⟨qs, h1, h2, h3⟩ := t q hq
      refine ⟨qs, by rw [h.2 _ (hlt q hq)]; exact h1, h2, fun pos cv hc => ?_⟩
      obtain ⟨c, e1, e2⟩ := h3 pos cv hc
      exact ⟨c, e1, nt _ _ e2 fun ps z => by cases z⟩
  exact ⟨R.leaves l, l.grow⟩
/-! ### all -/
def allF (x : D) (g : GF) (h : EF) (en : En) : Nat → Nat → Sto → Ans Bool
  | 0, _, _ => .bad
  | n + 1, k, S => match itAt S k x with
    | none => .bad
    | some none => .ok true S
    | some (some d) => match g d en S with
      | none => .bad
      | some en1 => match h en1 S with
        | .ok (.bl true) S2 => allF x g h en n (k + 1) S2
        | .ok (.bl false) S2 => .ok false S2
        | _ => .bad
def allN (x : D) (g : GF) (h : EF) (en : En) : Nat → Nat → Sto → Nat
  | 0, _, _ => 0
  | n + 1, k, S => match itAt S k x with
    | none => 0
    | some none => 0
    | some (some d) => match g d en S with
      | none => 0
      | some en1 => match h en1 S with
        | .ok (.bl true) S2 => allN x g h en n (k + 1) S2 + 1
        | _ => 0
def eAll (n : Nat) (vs : List Nat) (f : EF) (g : GF) (h : EF) : EF := fun en S => (f en S).bind fun x S1 => (allF x g h (wipeN en vs) n 0 S1).bind fun b S2 => .ok (.bl b) S2
def itemsB (n : Nat) (full : Bool) : List V := (List.range (if full = true then n else n + 1)).map fun i => .bl (decide (i < n))
theorem itemsB_len (n : Nat) (full : Bool) : (itemsB n full).length = if full = true then n else n + 1 := by unfold itemsB; rw [List.length_map, List.length_range]
theorem itemsB_at (n : Nat) (full : Bool) (i : Nat) (h : i < (itemsB n full).length) : (itemsB n full)[i]? = some (.bl (decide (i < n))) := by
  rw [itemsB_len] at h
  unfold itemsB
  rw [List.getElem?_map, List.getElem?_range h]
  rfl
theorem tAllG_ok {P : Addr} {wi : TI} {vs : List Nat} {f : EF} {g : GF} {h : EF} (fuel : Nat) (hP : P ∈ M.tb) (hlt : ∀ q ∈ M.lt, q.1 ≠ P)
    (qi : ∀ r S en σ H R, RE X.K r H en σ → RS X.K M r S H → Post (ItOk X.K) X.K M r H R E (f en S) → wi σ H R) :
    ∀ r S en σ H Q, RE X.K r H en σ → RS X.K M r S H → Post (RD X.K) X.K M r H Q E (eAll fuel vs f g h en S) → tAllG P wi (canG X.K M vs g) (canT X.K M E0 h) vs σ H Q := by
  intro r S en σ H Q he hs hp
  refine qi r S en σ H _ he hs (Post.bind hp fun x S1 r1 H1 J _ g1 j1 s1 h1 => ?_)
  refine ⟨s1.tab P hP, fun H2 hT => ?_⟩
  obtain ⟨s2, g2⟩ := s1.tabbed hP hlt hT
  have j2 := j1.mono g2
  have he2 := (((he.mono g1).mono g2).wipe vs)
  generalize hen : wipeN en vs = en0 at h1 he2
  cases hall : allF x g h en0 fuel 0 S1 with
  | exc c S' =>
    exfalso
    have : ∀ (m k : Nat) (S : Sto), allF x g h en0 m k S ≠ .exc c S' := by
      intro m
      induction m with
      | zero => intro k S z; cases z
      | succ m ih =>
        intro k S z
        unfold allF at z
        split at z
        · cases z
        · cases z
        · split at z
          · cases z
          · split at z
            · exact ih _ _ z
            · cases z
            · cases z
    exact this _ _ _ hall
  | bad => rw [hall] at h1; exact h1.elim
  | ok b Se =>
    rw [hall] at h1
    have h1 : Post (RD X.K) X.K M r1 H1 Q E (.ok (.bl b) Se) := h1
    generalize hN0 : allN x g h en0 fuel 0 S1 = N0
    refine ⟨itemsB (N0) b, N0, b,
      fun i H => ∃ r S, Grow r1 H1 r H ∧ RE X.K r H en0 (wipe σ vs) ∧ RS X.K M r S H ∧ ItOk X.K r H x J ∧ ((i ≤ N0 ∧ ∃ m, allF x g h en0 m i S = .ok b Se ∧ allN x g h en0 m i S = N0 - i) ∨ (i = N0 + 1 ∧ b = false ∧ S = Se)),
      ⟨fun i H3 hi hw => ?_, fun hfull H3 hw => ?_⟩, itemsB_len _ _, fun i hi => itemsB_at _ _ i hi, ⟨r1, S1, g2, he2, s2, j2, .inl ⟨Nat.zero_le _, fuel, hall, hN0⟩⟩, fun H3 hw => ?_⟩
    · obtain ⟨r3, S3, g3, he3, s3, j3, hc⟩ := hw
      have hat := itemsB_at _ _ i hi
      rw [itemsB_len] at hi
      rcases hc with ⟨hle, m, ha, hn⟩ | ⟨e1, e2, _⟩
      · cases m with
        | zero => cases ha
        | succ m =>
          unfold allF at ha
          unfold allN at hn
          cases e : itAt S3 i x with
          | none => rw [e] at ha; cases ha
          | some o =>
            rw [e] at ha hn
            cases o with
            | none =>
              simp only at ha hn
              cases ha
              rw [if_pos rfl] at hi
              omega
            | some d =>
              obtain ⟨go, hy⟩ := itAt_go e s3 j3
              refine ⟨go, fun v H' y => ?_⟩
              obtain ⟨eH, hd⟩ := hy v H' y
              subst eH
              simp only at ha hn
              cases e2 : g d en0 S3 with
              | none => rw [e2] at ha; cases ha
              | some en1 =>
                rw [e2] at ha hn
                simp only at ha hn
                refine ⟨r3, S3, en0, en1, d, he3, s3, hd, e2, fun σ' he' ch => ⟨by rw [ch.wipe, wipe_wipe], r3, S3, en1, he', s3, ?_⟩⟩
                cases e3 : h en1 S3 with
                | exc c S' => rw [e3] at ha; cases ha
                | bad => rw [e3] at ha; cases ha
                | ok y S4 =>
                  rw [e3] at ha hn
                  intro r' H4 v' g4 q4 s4
                  have mk : ∀ r5 H5, Grow r3 H' r5 H5 → RE X.K r5 H5 en0 (wipe σ vs) := fun r5 H5 g5 => he3.mono g5
                  cases y with
                  | bl bb =>
                    cases bb with
                    | true =>
                      simp only at ha hn
                      have hlt2 : i < N0 := by omega
                      refine ⟨?_, r', S4, g3.trans g4, mk _ _ g4, s4, j3.mono g4, .inl ⟨hlt2, m, ha, by omega⟩⟩
                      rw [hat, rd_bl.mp q4, decide_eq_true hlt2]
                    | false =>
                      simp only at ha hn
                      have en' : i = N0 := by omega
                      cases ha
                      refine ⟨?_, r', _, g3.trans g4, mk _ _ g4, s4, j3.mono g4, .inr ⟨by omega, rfl, rfl⟩⟩
                      rw [hat, rd_bl.mp q4, decide_eq_false (by omega)]
                  | _ => cases ha
      · rw [e2, if_neg Bool.false_ne_true] at hi
        omega
    · obtain ⟨r3, S3, g3, he3, s3, j3, hc⟩ := hw
      rw [itemsB_len, hfull, if_pos rfl] at hc ⊢
      rcases hc with ⟨hle, m, ha, hn⟩ | ⟨e1, e2, _⟩
      · cases m with
        | zero => cases ha
        | succ m =>
          unfold allF at ha
          unfold allN at hn
          cases e : itAt S3 (N0) x with
          | none => rw [e] at ha; cases ha
          | some o =>
            rw [e] at ha hn
            cases o with
            | none => exact itAt_stop e s3 j3
            | some d =>
              exfalso
              simp only at ha hn
              cases e2 : g d en0 S3 with
              | none => rw [e2] at ha; cases ha
              | some en1 =>
                rw [e2] at ha hn
                simp only at ha hn
                cases e3 : h en1 S3 with
                | exc c S' => rw [e3] at ha; cases ha
                | bad => rw [e3] at ha; cases ha
                | ok y S4 =>
                  rw [e3] at ha hn
                  cases y with
                  | bl bb =>
                    cases bb with
                    | true => simp only at hn; omega
                    | false => simp only at ha; cases ha
                  | _ => cases ha
      · omega
    · obtain ⟨r3, S3, g3, he3, s3, j3, hc⟩ := hw
      rw [itemsB_len] at hc
      have fin : S3 = Se → Q (.bl b) H3 := fun e => by
        subst e
        exact h1 r3 H3 _ g3 (rd_bl.mpr rfl) s3
      rcases hc with ⟨hle, m, ha, hn⟩ | ⟨e1, e2, e3⟩
      · cases b with
        | false => rw [if_neg Bool.false_ne_true] at hle; omega
        | true =>
          rw [if_pos rfl] at ha hn
          cases m with
          | zero => cases ha
          | succ m =>
            unfold allF at ha
            unfold allN at hn
            cases e : itAt S3 (N0) x with
            | none => rw [e] at ha; cases ha
            | some o =>
              rw [e] at ha hn
              cases o with
              | none =>
                simp only at ha
                cases ha
                exact fin rfl
              | some d =>
                exfalso
                simp only at ha hn
                cases e2 : g d en0 S3 with
                | none => rw [e2] at ha; cases ha
                | some en1 =>
                  rw [e2] at ha hn
                  simp only at ha hn
                  cases e3 : h en1 S3 with
                  | exc c S' => rw [e3] at ha; cases ha
                  | bad => rw [e3] at ha; cases ha
                  | ok y S4 =>
                    rw [e3] at ha hn
                    cases y with
                    | bl bb =>
                      cases bb with
                      | true => simp only at hn; omega
                      | false => simp only at ha; cases ha
                    | _ => cases ha
      · exact fin e3
/-! ### sum -/
def sumF (x : D) (g : GF) (h : EF) (en : En) : Nat → Nat → Sto → Ans (List Int)
  | 0, _, _ => .bad
  | n + 1, k, S => match itAt S k x with
    | none => .bad
    | some none => .ok [] S
    | some (some d) => match g d en S with
      | none => .bad
      | some en1 => match h en1 S with
        | .ok (.int j) S2 => (sumF x g h en n (k + 1) S2).bind fun l S3 => .ok (j :: l) S3
        | _ => .bad
def sumA : Int → List Int → Int
  | acc, [] => acc
  | acc, j :: l => sumA (acc + j) l
def eSum (n : Nat) (vs : List Nat) (f : EF) (g : GF) (h : EF) : EF := fun en S => (f en S).bind fun x S1 => (sumF x g h (wipeN en vs) n 0 S1).bind fun l S2 => .ok (.int (sumA 0 l)) S2
theorem sumA_pre (is : List Int) : ∀ (l : List Int) (k : Nat), is.drop k = l → k ≤ is.length → sumA (preSum (valOf is) k) l = preSum (valOf is) is.length
  | [], k, e, hk => by
    have : is.length ≤ k := by
      have := congrArg List.length e
      rw [List.length_drop] at this
      simp at this
      omega
    have e2 : k = is.length := Nat.le_antisymm hk this
    rw [e2]
    rfl
  | j :: l, k, e, hk => by
    have hlt : k < is.length := by
      have := congrArg List.length e
      rw [List.length_drop, List.length_cons] at this
      omega
    rw [List.drop_eq_getElem_cons hlt] at e
    injection e with e1 e2
    have ih := sumA_pre is l (k + 1) e2 hlt
    rw [← ih]
    show sumA (preSum (valOf is) k + j) l = sumA (preSum (valOf is) k + valOf is k) l
    have : valOf is k = j := by
      unfold valOf
      rw [List.getElem?_eq_getElem hlt]
      exact e1
    rw [this]
theorem tSumG_ok {P : Addr} {wi : TI} {vs : List Nat} {f : EF} {g : GF} {h : EF} (fuel : Nat) (hP : P ∈ M.tb) (hlt : ∀ q ∈ M.lt, q.1 ≠ P)
    (qi : ∀ r S en σ H R, RE X.K r H en σ → RS X.K M r S H → Post (ItOk X.K) X.K M r H R E (f en S) → wi σ H R) :
    ∀ r S en σ H Q, RE X.K r H en σ → RS X.K M r S H → Post (RD X.K) X.K M r H Q E (eSum fuel vs f g h en S) → tSumG P wi (canG X.K M vs g) (canT X.K M E0 h) vs σ H Q := by
  intro r S en σ H Q he hs hp
  refine qi r S en σ H _ he hs (Post.bind hp fun x S1 r1 H1 J _ g1 j1 s1 h1 => ?_)
  refine ⟨s1.tab P hP, fun H2 hT => ?_⟩
  obtain ⟨s2, g2⟩ := s1.tabbed hP hlt hT
  have j2 := j1.mono g2
  have he2 := (((he.mono g1).mono g2).wipe vs)
  generalize hen : wipeN en vs = en0 at h1 he2
  cases hall : sumF x g h en0 fuel 0 S1 with
  | exc c S' =>
    exfalso
    have : ∀ (m k : Nat) (S : Sto), sumF x g h en0 m k S ≠ .exc c S' := by
      intro m
      induction m with
      | zero => intro k S z; cases z
      | succ m ih =>
        intro k S z
        unfold sumF at z
        split at z
        · cases z
        · cases z
        · split at z
          · cases z
          · split at z
            · rename_i S2 _
              cases e : sumF x g h en0 m (k + 1) S2 with
              | ok l S3 => rw [e] at z; cases z
              | exc c' S3 =>
                rw [e] at z
                cases z
                exact ih _ _ e
              | bad => rw [e] at z; cases z
            · cases z
    exact this _ _ _ hall
  | bad => rw [hall] at h1; exact h1.elim
  | ok is Se =>
    rw [hall] at h1
    have h1 : Post (RD X.K) X.K M r1 H1 Q E (.ok (.int (sumA 0 is)) Se) := h1
    have etot : sumA 0 is = preSum (valOf is) is.length := sumA_pre is is 0 rfl (Nat.zero_le _)
    rw [etot] at h1
    refine ⟨is, fun i H => ∃ r S, Grow r1 H1 r H ∧ RE X.K r H en0 (wipe σ vs) ∧ RS X.K M r S H ∧ ItOk X.K r H x J ∧ ∃ m, sumF x g h en0 m i S = .ok (is.drop i) Se,
      ⟨fun i H3 hi hw => ?_, fun _ H3 hw => ?_⟩, ⟨r1, S1, g2, he2, s2, j2, fuel, hall⟩, fun H3 hw => ?_⟩
    · obtain ⟨r3, S3, g3, he3, s3, j3, m, ha⟩ := hw
      rw [List.length_map] at hi
      rw [List.drop_eq_getElem_cons hi] at ha
      cases m with
      | zero => cases ha
      | succ m =>
        unfold sumF at ha
        cases e : itAt S3 i x with
        | none => rw [e] at ha; cases ha
        | some o =>
          rw [e] at ha
          cases o with
          | none => simp only at ha; cases ha
          | some d =>
            obtain ⟨go, hy⟩ := itAt_go e s3 j3
            refine ⟨go, fun v H' y => ?_⟩
            obtain ⟨eH, hd⟩ := hy v H' y
            subst eH
            simp only at ha
            cases e2 : g d en0 S3 with
            | none => rw [e2] at ha; cases ha
            | some en1 =>
              rw [e2] at ha
              simp only at ha
              refine ⟨r3, S3, en0, en1, d, he3, s3, hd, e2, fun σ' he' ch => ⟨by rw [ch.wipe, wipe_wipe], r3, S3, en1, he', s3, ?_⟩⟩
              cases e3 : h en1 S3 with
              | exc c S' => rw [e3] at ha; cases ha
              | bad => rw [e3] at ha; cases ha
              | ok y S4 =>
                rw [e3] at ha
                intro r' H4 v' g4 q4 s4
                cases y with
                | int j =>
                  simp only at ha
                  cases e4 : sumF x g h en0 m (i + 1) S4 with
                  | exc c S' => rw [e4] at ha; cases ha
                  | bad => rw [e4] at ha; cases ha
                  | ok l S5 =>
                    rw [e4] at ha
                    have ha : Ans.ok (j :: l) S5 = Ans.ok (is[i] :: is.drop (i + 1)) Se := ha
                    injection ha with ha1 ha2
                    injection ha1 with ha3 ha4
                    subst ha2 ha4
                    refine ⟨?_, r', S4, g3.trans g4, he3.mono g4, s4, j3.mono g4, m, e4⟩
                    rw [List.getElem?_map, List.getElem?_eq_getElem hi, rd_int.mp q4, ha3]
                    rfl
                | _ => cases ha
    · obtain ⟨r3, S3, g3, he3, s3, j3, m, ha⟩ := hw
      rw [List.length_map] at ha ⊢
      rw [List.drop_length] at ha
      cases m with
      | zero => cases ha
      | succ m =>
        unfold sumF at ha
        cases e : itAt S3 is.length x with
        | none => rw [e] at ha; cases ha
        | some o =>
          rw [e] at ha
          cases o with
          | none => exact itAt_stop e s3 j3
          | some d =>
            exfalso
            simp only at ha
            split at ha
            · cases ha
            · split at ha
              · rename_i S2 _
                cases e4 : sumF x g h en0 m (is.length + 1) S2 with
                | exc c S' => rw [e4] at ha; cases ha
                | bad => rw [e4] at ha; cases ha
                | ok l S5 => rw [e4] at ha; cases ha
              · cases ha
    · obtain ⟨r3, S3, g3, he3, s3, j3, m, ha⟩ := hw
      rw [List.length_map, List.drop_length] at ha
      cases m with
      | zero => cases ha
      | succ m =>
        unfold sumF at ha
        cases e : itAt S3 is.length x with
        | none => rw [e] at ha; cases ha
        | some o =>
          rw [e] at ha
          cases o with
          | none =>
            simp only at ha
            cases ha
            exact h1 r3 H3 _ g3 (rd_int.mpr rfl) s3
          | some d =>
            exfalso
            simp only at ha
            split at ha
            · cases ha
            · split at ha
              · rename_i S2 _
                cases e4 : sumF x g h en0 m (is.length + 1) S2 with
                | exc c S' => rw [e4] at ha; cases ha
                | bad => rw [e4] at ha; cases ha
                | ok l S5 => rw [e4] at ha; cases ha
              · cases ha
end
end Kv

/-! Shallow: all, sum, comprehensions as expressions; f-strings; more. -/
namespace Kv
open PySem PySem.Spec PyProof.Rows L2 GenW
section
variable {X : Cx} {M : Mo} {E : XK} {tg elt iter : Expr} {scope : Scope} {gpos p pos : Pos} {own : List (Str × Nat)} {vs : List Nat} {f : EF} {g : GF} {h : EF}
theorem se_all (fuel : Nat) {c P : Addr} {k : Nat} (cx : CtxE X E) (hr : Room (k + 1) X.A) (hg : Gl X "all") (hm : X.mg "all" = none) (hb : bootBuiltins "all" = some (.builtin "all")) (TB : GxR.TabB X.base X.mg c P) (hcode : X.env.code = .ref c) (hP : P ∈ M.tb) (hlt : ∀ q ∈ M.lt, q.1 ≠ P)
    (ok : BlkOk X.N X.env.scope scope own) (hvs : own.map (·.2) = vs) (hco : scope.isCoroutine = false) (hcell : ∀ y ∈ scope.names, y.2 ≠ .cell) (hdot : scope.names.lookup (".0" : Str) = some NameKind.local)
    (hi : SI X M E tg iter f) (hpg : ∀ (s : Shared) (H : Hp) (C : Addr) (code : Value) (A' : Around) (fp : List Addr), SG (gCx X s H (gEnvOf X scope C code) A' fp) M vs tg g) (hpe : ∀ (s : Shared) (H : Hp) (C : Addr) (code : Value) (A' : Around) (fp : List Addr), Room k A' → SE (gCx X s H (gEnvOf X scope C code) A' fp) M E0 elt h)
    (hs : ∀ v, genFold iter X.env v = pure v) (he : starEach [.GeneratorExp elt [⟨tg, iter, [], 0⟩] scope gpos] X.env = (false, eval (.GeneratorExp elt [⟨tg, iter, [], 0⟩] scope gpos) X.env) :: starEach [] X.env := by rfl) :
    SE X M E (.Call (.Name "all" p) [.GeneratorExp elt [⟨tg, iter, [], 0⟩] scope gpos] [] pos) (eAll fuel vs f g h) := by
  subst hvs
  obtain ⟨wi, pi, qi⟩ := hi
  exact ⟨_, pe_allG cx.calm cx.nd hr hg hm hb TB hcode ok hco hcell hdot pi (fun s H C code A' fp => (hpg s H C code A' fp).can) (fun s H C code A' fp r => (hpe s H C code A' fp r).can) hs he, tAllG_ok fuel hP hlt qi⟩
theorem se_sum (fuel : Nat) {c P : Addr} {k : Nat} (cx : CtxE X E) (hr : Room (k + 1) X.A) (hg : Gl X "sum") (hm : X.mg "sum" = none) (hb : bootBuiltins "sum" = some (.builtin "sum")) (TB : GxR.TabB X.base X.mg c P) (hcode : X.env.code = .ref c) (hP : P ∈ M.tb) (hlt : ∀ q ∈ M.lt, q.1 ≠ P)
    (ok : BlkOk X.N X.env.scope scope own) (hvs : own.map (·.2) = vs) (hco : scope.isCoroutine = false) (hcell : ∀ y ∈ scope.names, y.2 ≠ .cell) (hdot : scope.names.lookup (".0" : Str) = some NameKind.local)
    (hi : SI X M E tg iter f) (hpg : ∀ (s : Shared) (H : Hp) (C : Addr) (code : Value) (A' : Around) (fp : List Addr), SG (gCx X s H (gEnvOf X scope C code) A' fp) M vs tg g) (hpe : ∀ (s : Shared) (H : Hp) (C : Addr) (code : Value) (A' : Around) (fp : List Addr), Room k A' → SE (gCx X s H (gEnvOf X scope C code) A' fp) M E0 elt h)
    (hs : ∀ v, genFold iter X.env v = pure v) (he : starEach [.GeneratorExp elt [⟨tg, iter, [], 0⟩] scope gpos] X.env = (false, eval (.GeneratorExp elt [⟨tg, iter, [], 0⟩] scope gpos) X.env) :: starEach [] X.env := by rfl) :
    SE X M E (.Call (.Name "sum" p) [.GeneratorExp elt [⟨tg, iter, [], 0⟩] scope gpos] [] pos) (eSum fuel vs f g h) := by
  subst hvs
  obtain ⟨wi, pi, qi⟩ := hi
  exact ⟨_, pe_sumG cx.calm cx.nd hr hg hm hb TB hcode ok hco hcell hdot pi (fun s H C code A' fp => (hpg s H C code A' fp).can) (fun s H C code A' fp r => (hpe s H C code A' fp r).can) hs he, tSumG_ok fuel hP hlt qi⟩
/-! ### list comprehensions -/
def lcF (x : D) (g : GF) (h : EF) (en : En) (o : Nat) : Nat → Nat → Sto → Ans D
  | 0, _, _ => .bad
  | n + 1, k, S => match itAt S k x with
    | none => .bad
    | some none => .ok (.ob o) S
    | some (some d) => match g d en S with
      | none => .bad
      | some en1 => match h en1 S with
        | .ok y S2 => match nth S2 o with
          | some (.lst ds) => match Nat.ble ds.length lim with
            | true => lcF x g h en o n (k + 1) (setN S2 o (.lst (ds ++ [y])))
            | false => .bad
          | _ => .bad
        | _ => .bad
def eLc (n : Nat) (vs : List Nat) (f : EF) (g : GF) (h : EF) : EF := fun en S => (f en S).bind fun x S1 => lcF x g h (wipeN en vs) S1.length n 0 (S1 ++ [.lst []])
theorem se_lc (fuel : Nat) (cx : CtxE X E) (ok : BlkOk X.N X.env.scope scope own) (hvs : own.map (·.2) = vs) (hi : SI X M E tg iter f)
    (hpg : ∀ (s : Shared) (H : Hp) (C : Addr) (cl : List (Str × Addr)) (fp : List Addr), SG (X.blk s H scope (compEnvC scope cl C X.env) fp) M vs tg g) (hpe : ∀ (s : Shared) (H : Hp) (C : Addr) (cl : List (Str × Addr)) (fp : List Addr), SE (X.blk s H scope (compEnvC scope cl C X.env) fp) M E0 elt h)
    (hs : ∀ x, foldedSetIterable iter X.env x = pure x := by intro _; rfl) : SE X M E (.ListComp elt [⟨tg, iter, [], 0⟩] scope pos) (eLc fuel vs f g h) := by
  subst hvs
  obtain ⟨wi, pi, qi⟩ := hi
  refine ⟨_, pe_lc (te := canT X.K M E0 h) (g := canG X.K M (own.map (·.2)) g) cx.calm cx.nd pi ok (fun s H C cl fp => (hpg s H C cl fp).can) (fun s H C cl fp => pts_nil) (fun s H C cl fp => (hpe s H C cl fp).can) hs, fun r S en σ H Q he hs hp => ?_⟩
  refine qi r S en σ H _ he hs (Post.bind hp fun x S1 r1 H1 J _ g1 j1 s1 h1 => ?_)
  intro D hD
  obtain ⟨s2, g2⟩ := s1.push (u := .lst []) (o := .lst []) hD fun r' H' g q => ⟨[], q, rds_nil.mpr rfl⟩
  have hx : (r1 ++ [D])[S1.length]? = some D := by
    rw [← s1.len, List.getElem?_append_right (Nat.le_refl _)]
    simp
  have he2 := ((he.mono g1).mono g2).wipe (own.map (·.2))
  generalize hen : wipeN en (own.map (·.2)) = en0 at h1 he2
  generalize S1.length = o at h1 hx
  refine ⟨fun k m H => ∃ r S, r[o]? = some D ∧ RE X.K r H en0 (wipe σ (own.map (·.2))) ∧ RS X.K M r S H ∧ ItOk X.K r H x J ∧ Post (RD X.K) X.K M r H Q E (lcF x g h en0 o m k S), ⟨fuel, _, _, hx, he2, s2, j1.mono g2, Post.grow h1 g2⟩, ?_⟩
  rintro k m H ⟨r, S, hx, he, hs, hj, hp⟩
  cases m with
  | zero => exact hp.elim
  | succ m =>
    unfold lcF at hp
    cases e : itAt S k x with
    | none => rw [e] at hp; exact hp.elim
    | some od =>
      rw [e] at hp
      cases od with
      | none => exact .inl ⟨itAt_stop e hs hj, Post.here hp hs (rd_mut.mpr ⟨D, hx, rfl⟩)⟩
      | some d =>
        obtain ⟨go, hy⟩ := itAt_go e hs hj
        refine .inr ⟨go, fun H' => ∃ m', m' < m + 1 ∧ ∃ r S, r[o]? = some D ∧ RE X.K r H' en0 (wipe σ (own.map (·.2))) ∧ RS X.K M r S H' ∧ ItOk X.K r H' x J ∧ Post (RD X.K) X.K M r H' Q E (lcF x g h en0 o m' (k + 1) S), fun H' z => z, fun v H' y => ?_⟩
        obtain ⟨eH, hd⟩ := hy v H' y
        subst eH
        simp only at hp
        cases e2 : g d en0 S with
        | none => rw [e2] at hp; exact hp.elim
        | some en1 =>
          rw [e2] at hp
          simp only at hp
          refine ⟨r, S, en0, en1, d, he, hs, hd, e2, fun σ' he' ch => ⟨by rw [ch.wipe, wipe_wipe], ?_⟩⟩
          unfold tYes
          dsimp only
          rw [if_pos rfl]
          refine ⟨r, S, en1, he', hs, ?_⟩
          cases e3 : h en1 S with
          | exc c S' => rw [e3] at hp; exact hp.elim
          | bad => rw [e3] at hp; exact hp.elim
          | ok y S2 =>
            rw [e3] at hp
            simp only at hp
            intro r2 H2 w g2 q2 s2
            rw [nth_eq] at hp
            have hx2 := g2.pre _ _ hx
            cases e4 : S2[o]? with
            | none => rw [e4] at hp; exact hp.elim
            | some mo =>
              rw [e4] at hp
              cases mo with
              | lst ds =>
                simp only at hp
                cases e5 : Nat.ble ds.length lim with
                | false => rw [e5] at hp; exact hp.elim
                | true =>
                  rw [e5] at hp
                  simp only at hp
                  rw [setN_eq] at hp
                  obtain ⟨xs, b1, b2⟩ := s2.obj o D _ hx2 e4
                  obtain ⟨s3, g3⟩ := s2.put (u := .lst (xs ++ [w])) (o := .lst (ds ++ [y])) hx2 rfl fun H'' g q => ⟨_, q, RDs.append (RDs.mono g _ _ b2) (RDs.one (RD.mono g _ _ q2))⟩
                  exact ⟨xs, b1, by rw [← b2.length]; exact lim_lt e5, m, Nat.lt_succ_self m, r2, _, hx2, he.mono (g2.trans g3), s3, hj.mono (g2.trans g3), Post.grow hp (g2.trans g3)⟩
              | _ => exact hp.elim
/-! ### dict comprehensions -/
def hasN (k : List Nat) : List (List Nat × D) → Bool
  | [] => false
  | q :: r => match beqN q.1 k with
    | true => true
    | false => hasN k r
def mapN (k : List Nat) (v : D) : List (List Nat × D) → List (List Nat × D)
  | [] => []
  | q :: r => (match beqN q.1 k with
    | true => (q.1, v)
    | false => q) :: mapN k v r
def putKN (kvs : List (List Nat × D)) (k : List Nat) (v : D) : List (List Nat × D) := match hasN k kvs with
  | true => mapN k v kvs
  | false => kvs ++ [(k, v)]
theorem key_beq (a k : List Nat) : decide ((Sum.inr ⟨a.toArray⟩ : Key) = Sum.inr ⟨k.toArray⟩) = beqN a k := by
  rw [key_rr]
  exact dec_of (beqN_iff.trans ⟨fun e => by rw [e], fun e => by injection e with e; exact List.toArray_inj e⟩)
theorem putKN_ok {K : PySem.W.Frag} {r : List Addr} {H : Hp} {k : List Nat} {d : D} {v : V} (hd : RD K r H d v) {ps : List (List Nat × D)} {kv : List (Key × V)} (h : RKs K r H ps kv) : RKs K r H (putKN ps k d) (putK kv (Sum.inr ⟨k.toArray⟩) v) := by
  have any : ∀ {ps : List (List Nat × D)} {kv : List (Key × V)}, RKs K r H ps kv → (kv.any fun q => decide (q.1 = (Sum.inr ⟨k.toArray⟩ : Key))) = hasN k ps := by
    intro ps
    induction ps with
    | nil => intro kv h; rw [show kv = [] from h]; rfl
    | cons q qs ih =>
      rintro kv ⟨w, fr, e, h1, h2⟩
      subst e
      rw [List.any_cons, ih h2]
      show (decide ((Sum.inr ⟨q.1.toArray⟩ : Key) = _) || _) = _
      rw [key_beq]
      rw [show hasN k (q :: qs) = (match beqN q.1 k with | true => true | false => hasN k qs) from rfl]
      cases beqN q.1 k <;> rfl
  have mp : ∀ {ps : List (List Nat × D)} {kv : List (Key × V)}, RKs K r H ps kv → RKs K r H (mapN k d ps) (kv.map fun q => if q.1 = (Sum.inr ⟨k.toArray⟩ : Key) then (q.1, v) else q) := by
    intro ps
    induction ps with
    | nil => intro kv h; rw [show kv = [] from h]; rfl
    | cons q qs ih =>
      rintro kv ⟨w, fr, e, h1, h2⟩
      subst e
      rw [List.map_cons]
      have kb := key_beq q.1 k
      unfold mapN
      cases e2 : beqN q.1 k with
      | true =>
        rw [e2] at kb
        have e3 : (Sum.inr ⟨q.1.toArray⟩ : Key) = Sum.inr ⟨k.toArray⟩ := of_decide_eq_true kb
        rw [if_pos e3]
        exact ⟨v, _, rfl, hd, ih h2⟩
      | false =>
        rw [e2] at kb
        have e3 : ¬ (Sum.inr ⟨q.1.toArray⟩ : Key) = Sum.inr ⟨k.toArray⟩ := of_decide_eq_false kb
        rw [if_neg e3]
        exact ⟨w, _, rfl, h1, ih h2⟩
  have ap : ∀ {ps : List (List Nat × D)} {kv : List (Key × V)}, RKs K r H ps kv → RKs K r H (ps ++ [(k, d)]) (kv ++ [(Sum.inr ⟨k.toArray⟩, v)]) := by
    intro ps
    induction ps with
    | nil => intro kv h; rw [show kv = [] from h]; exact ⟨v, [], rfl, hd, rfl⟩
    | cons q qs ih =>
      rintro kv ⟨w, fr, e, h1, h2⟩
      subst e
      exact ⟨w, _, rfl, h1, ih h2⟩
  unfold putKN putK
  rw [any h]
  cases hasN k ps with
  | true => rw [if_pos rfl]; exact mp h
  | false => rw [if_neg Bool.false_ne_true]; exact ap h
def dcF (x : D) (g : GF) (h h2 : EF) (en : En) (o : Nat) : Nat → Nat → Sto → Ans D
  | 0, _, _ => .bad
  | n + 1, k, S => match itAt S k x with
    | none => .bad
    | some none => .ok (.ob o) S
    | some (some d) => match g d en S with
      | none => .bad
      | some en1 => match h en1 S with
        | .ok (.str s) S2 => match h2 en1 S2 with
          | .ok y S3 => match nth S3 o with
            | some (.dk kvs) => match Nat.ble kvs.length lim with
              | true => dcF x g h h2 en o n (k + 1) (setN S3 o (.dk (putKN kvs s y)))
              | false => .bad
            | _ => .bad
          | _ => .bad
        | _ => .bad
def eDc (n : Nat) (vs : List Nat) (f : EF) (g : GF) (h h2 : EF) : EF := fun en S => (f en S).bind fun x S1 => dcF x g h h2 (wipeN en vs) S1.length n 0 (S1 ++ [.dk []])
theorem se_dc {kx : Expr} {h2 : EF} (fuel : Nat) (cx : CtxE X E) (ok : BlkOk X.N X.env.scope scope own) (hvs : own.map (·.2) = vs) (hi : SI X M E tg iter f)
    (hpg : ∀ (s : Shared) (H : Hp) (C : Addr) (cl : List (Str × Addr)) (fp : List Addr), SG (X.blk s H scope (compEnvC scope cl C X.env) fp) M vs tg g) (hpk : ∀ (s : Shared) (H : Hp) (C : Addr) (cl : List (Str × Addr)) (fp : List Addr), SE (X.blk s H scope (compEnvC scope cl C X.env) fp) M E0 kx h) (hpe : ∀ (s : Shared) (H : Hp) (C : Addr) (cl : List (Str × Addr)) (fp : List Addr), SE (X.blk s H scope (compEnvC scope cl C X.env) fp) M E0 elt h2)
    (hs : ∀ x, foldedSetIterable iter X.env x = pure x := by intro _; rfl) : SE X M E (.DictComp kx elt [⟨tg, iter, [], 0⟩] scope pos) (eDc fuel vs f g h h2) := by
  subst hvs
  obtain ⟨wi, pi, qi⟩ := hi
  refine ⟨_, pe_dc (tk := canT X.K M E0 h) (tv := canT X.K M E0 h2) (g := canG X.K M (own.map (·.2)) g) cx.calm cx.nd pi ok (fun s H C cl fp => (hpg s H C cl fp).can) (fun s H C cl fp => pts_nil) (fun s H C cl fp => (hpk s H C cl fp).can) (fun s H C cl fp => (hpe s H C cl fp).can) hs, fun r S en σ H Q he hs hp => ?_⟩
  refine qi r S en σ H _ he hs (Post.bind hp fun x S1 r1 H1 J _ g1 j1 s1 h1 => ?_)
  intro D hD
  obtain ⟨s2, g2⟩ := s1.push (u := .dK []) (o := .dk []) hD fun r' H' g q => ⟨[], q, rfl⟩
  have hx : (r1 ++ [D])[S1.length]? = some D := by
    rw [← s1.len, List.getElem?_append_right (Nat.le_refl _)]
    simp
  have he2 := ((he.mono g1).mono g2).wipe (own.map (·.2))
  generalize hen : wipeN en (own.map (·.2)) = en0 at h1 he2
  generalize S1.length = o at h1 hx
  refine ⟨fun k m H => ∃ r S, r[o]? = some D ∧ RE X.K r H en0 (wipe σ (own.map (·.2))) ∧ RS X.K M r S H ∧ ItOk X.K r H x J ∧ Post (RD X.K) X.K M r H Q E (dcF x g h h2 en0 o m k S), ⟨fuel, _, _, hx, he2, s2, j1.mono g2, Post.grow h1 g2⟩, ?_⟩
  rintro k m H ⟨r, S, hx, he, hs, hj, hp⟩
  cases m with
  | zero => exact hp.elim
  | succ m =>
    unfold dcF at hp
    cases e : itAt S k x with
    | none => rw [e] at hp; exact hp.elim
    | some od =>
      rw [e] at hp
      cases od with
      | none => exact .inl ⟨itAt_stop e hs hj, Post.here hp hs (rd_mut.mpr ⟨D, hx, rfl⟩)⟩
      | some d =>
        obtain ⟨go, hy⟩ := itAt_go e hs hj
        refine .inr ⟨go, fun H' => ∃ m', m' < m + 1 ∧ ∃ r S, r[o]? = some D ∧ RE X.K r H' en0 (wipe σ (own.map (·.2))) ∧ RS X.K M r S H' ∧ ItOk X.K r H' x J ∧ Post (RD X.K) X.K M r H' Q E (dcF x g h h2 en0 o m' (k + 1) S), fun H' z => z, fun v H' y => ?_⟩
        obtain ⟨eH, hd⟩ := hy v H' y
        subst eH
        simp only at hp
        cases e2 : g d en0 S with
        | none => rw [e2] at hp; exact hp.elim
        | some en1 =>
          rw [e2] at hp
          simp only at hp
          refine ⟨r, S, en0, en1, d, he, hs, hd, e2, fun σ' he' ch => ⟨by rw [ch.wipe, wipe_wipe], ?_⟩⟩
          unfold tYes
          dsimp only
          rw [if_pos rfl]
          refine ⟨r, S, en1, he', hs, ?_⟩
          cases e3 : h en1 S with
          | exc c S' => rw [e3] at hp; exact hp.elim
          | bad => rw [e3] at hp; exact hp.elim
          | ok y S2 =>
            rw [e3] at hp
            cases y with
            | str s =>
              simp only at hp
              intro r2 H2 w g2 q2 s2
              refine ⟨r2, S2, en1, he'.mono g2, s2, ?_⟩
              cases e6 : h2 en1 S2 with
              | exc c S' => rw [e6] at hp; exact hp.elim
              | bad => rw [e6] at hp; exact hp.elim
              | ok y S3 =>
                rw [e6] at hp
                simp only at hp
                intro r3 H3 w3 g3 q3 s3
                rw [nth_eq] at hp
                have hx3 := g3.pre _ _ (g2.pre _ _ hx)
                cases e4 : S3[o]? with
                | none => rw [e4] at hp; exact hp.elim
                | some mo =>
                  rw [e4] at hp
                  cases mo with
                  | dk kvs =>
                    simp only at hp
                    cases e5 : Nat.ble kvs.length lim with
                    | false => rw [e5] at hp; exact hp.elim
                    | true =>
                      rw [e5] at hp
                      simp only at hp
                      rw [setN_eq] at hp
                      obtain ⟨kv, b1, b2⟩ := s3.obj o D _ hx3 e4
                      obtain ⟨s4, g4⟩ := s3.put (u := .dK (putK kv (Sum.inr ⟨s.toArray⟩) w3)) (o := .dk (putKN kvs s y)) hx3 rfl fun H'' g q => ⟨_, q, putKN_ok (RD.mono g _ _ q3) (RKs.mono g _ _ b2)⟩
                      exact ⟨kv, Sum.inr ⟨s.toArray⟩, rd_str.mp q2, b1, by rw [← RKs.length b2]; exact lim_lt e5, m, Nat.lt_succ_self m, r3, _, hx3, he.mono ((g2.trans g3).trans g4), s4, hj.mono ((g2.trans g3).trans g4), Post.grow hp ((g2.trans g3).trans g4)⟩
                  | _ => exact hp.elim
            | _ => exact hp.elim
/-! ### f-strings -/
abbrev JF := List Nat → En → Sto → Ans (List Nat)
def jNil : JF := fun acc _ S => .ok acc S
def jCons (f : EF) (k : JF) : JF := fun acc en S => (f en S).bind fun x S1 => match x with
  | .str s => match Nat.ble (acc.length + s.length) lim with
    | true => k (acc ++ s) en S1
    | false => .bad
  | _ => .bad
structure SJ (X : Cx) (M : Mo) (E : XK) (es : List Expr) (f : JF) : Prop where
  ex : ∃ ts, PJ X es ts ∧ ∀ acc r S en σ H Q, RE X.K r H en σ → RS X.K M r S H → Post (fun _ _ (l : List Nat) (y : Str) => y = ⟨l.toArray⟩) X.K M r H Q E (f acc en S) → tJs ts ⟨acc.toArray⟩ σ H Q
theorem sj_nil : SJ X M E [] jNil := ⟨_, .nil, fun acc r S en σ H Q he hs h => Post.here h hs rfl⟩
theorem sj_cons {e : Expr} {es : List Expr} {f : EF} {k : JF} (h1 : SE X M E e f) (h2 : SJ X M E es k) : SJ X M E (e :: es) (jCons f k) := by
  obtain ⟨t, p, q⟩ := h1
  obtain ⟨ts, p2, q2⟩ := h2
  refine ⟨_, .cons p p2, fun acc r S en σ H Q he hs h => ?_⟩
  refine q r S en σ H _ he hs (Post.bind h fun x S1 r1 H1 v _ g1 q1 s1 h1 => ?_)
  cases x with
  | str s =>
    simp only at h1
    cases e : Nat.ble (acc.length + s.length) lim with
    | false => rw [e] at h1; exact h1.elim
    | true =>
      rw [e] at h1
      refine ⟨_, rd_str.mp q1, ?_, ?_⟩
      · rw [str_cat, str_len, List.length_append]
        exact lim_le e
      · rw [str_cat]
        exact q2 _ r1 S1 en σ H1 Q (he.mono g1) s1 h1
  | _ => exact h1.elim
def eJoined (k : JF) : EF := fun en S => (k [] en S).bind fun l S1 => .ok (.str l) S1
theorem se_joined {v1 v2 : Expr} {rest : List Expr} {k : JF} (h : SJ X M E (v1 :: v2 :: rest) k) : SE X M E (.JoinedStr (v1 :: v2 :: rest) pos) (eJoined k) := by
  obtain ⟨ts, p, q⟩ := h
  refine ⟨_, pe_joined p, fun r S en σ H Q he hs h => ?_⟩
  refine q [] r S en σ H _ he hs (Post.bind h fun l S1 r1 H1 v _ g1 q1 s1 h1 => ?_)
  rw [q1]
  exact Post.here h1 s1 (rd_str.mpr rfl)
def eFmt (f : EF) : EF := fun en S => (f en S).bind fun x S1 => match x with
  | .str s => match Nat.ble s.length lim with
    | true => .ok (.str s) S1
    | false => .bad
  | .int i => match smallI i with
    | true => .ok (.str (txtI i)) S1
    | false => .bad
  | _ => .bad
theorem se_fmt {e : Expr} {f : EF} (h : SE X M E e f) : SE X M E (.FormattedValue e (-1) none pos) (eFmt f) := by
  obtain ⟨t, p, q⟩ := h
  refine ⟨_, pe_fmt p, fun r S en σ H Q he hs h => ?_⟩
  refine q r S en σ H _ he hs (Post.bind h fun x S1 r1 H1 v _ g1 q1 s1 h1 => ?_)
  split at h1
  · rename_i s _
    cases e : Nat.ble s.length lim with
    | false => rw [e] at h1; exact h1.elim
    | true =>
      rw [e] at h1
      exact .inl ⟨_, rd_str.mp q1, by rw [str_len]; exact lim_le e, Post.here h1 s1 (rd_str.mpr rfl)⟩
  · rename_i i _
    cases e : smallI i with
    | false => rw [e] at h1; exact h1.elim
    | true =>
      rw [e] at h1
      exact .inr ⟨i, rd_int.mp q1, smallI_ok e, Post.here h1 s1 (rd_str.mpr (by rw [txtI_str]))⟩
  · exact h1.elim
end
end Kv

/-! Shallow: dicts of the module, == of tuples, starred texts, join over a text, lists times n. -/
namespace Kv
open PySem PySem.Spec PyProof.Rows L2 GenW
/-! ### a dict of the module: texts to texts -/
def kvOf (e : DictEntry) : Option (List Nat × List Nat) := match e.key, e.val with
  | .str x _, .str y _ => some (x.cps.toList, y.cps.toList)
  | _, _ => none
structure DictIs (K : PySem.W.Frag) (w : World) (d : Addr) (kvs : List (List Nat × List Nat)) : Prop where
  ex : ∃ es n, KDict K w d es n ∧ es.toList.map kvOf = kvs.map some
def lookT (k : List Nat) : List (List Nat × List Nat) → Option (List Nat)
  | [] => none
  | q :: r => match beqN q.1 k with
    | true => some q.2
    | false => lookT k r
theorem str_eta (x : Str) : x = ⟨x.cps.toList.toArray⟩ := by
  obtain ⟨⟨l⟩⟩ := x
  rfl
theorem find_kv {s : List Nat} : ∀ {es : List DictEntry} {kvs : List (List Nat × List Nat)}, es.map kvOf = kvs.map some → (∀ e ∈ es, ∃ x t y u, e.key = .str x t ∧ e.val = .str y u) ∧
    ((lookT s kvs = none → es.find? (·.key.isStr ⟨s.toArray⟩) = none) ∧ ∀ y, lookT s kvs = some y → ∃ e t, es.find? (·.key.isStr ⟨s.toArray⟩) = some e ∧ e.val = .str ⟨y.toArray⟩ t)
  | [], [], _ => ⟨fun e h => absurd h (by simp), fun _ => rfl, fun y h => by cases h⟩
  | [], _ :: _, h => by cases h
  | _ :: _, [], h => by cases h
  | e :: es, q :: kvs, h => by
    rw [List.map_cons, List.map_cons] at h
    injection h with h1 h2
    obtain ⟨i1, i2, i3⟩ := find_kv (s := s) h2
    unfold kvOf at h1
    split at h1
    · rename_i x t y u ek ev
      injection h1 with h1
      subst h1
      have kb : e.key.isStr ⟨s.toArray⟩ = beqN x.cps.toList s := by
        rw [ek]
        have := beq_str x.cps.toList s
        rw [← str_eta] at this
        first
          | exact this
          | (show (x == (⟨s.toArray⟩ : Str)) = _; exact this)
      refine ⟨fun e' he' => ?_, fun hn => ?_, fun z hz => ?_⟩
      · rcases List.mem_cons.mp he' with z | z
        · rw [z]; exact ⟨x, t, y, u, ek, ev⟩
        · exact i1 e' z
      · rw [List.find?_cons, kb]
        unfold lookT at hn
        simp only at hn
        cases e2 : beqN x.cps.toList s with
        | true => rw [e2] at hn; cases hn
        | false => rw [e2] at hn; exact i2 hn
      · rw [List.find?_cons, kb]
        unfold lookT at hz
        simp only at hz
        cases e2 : beqN x.cps.toList s with
        | true =>
          rw [e2] at hz
          cases hz
          exact ⟨e, u, rfl, by rw [ev, ← str_eta]⟩
        | false => rw [e2] at hz; exact i3 z hz
    · cases h1
theorem nsIn_kv {K : PySem.W.Frag} {w : World} {d : Addr} {es : Array DictEntry} {n : Nat} {kvs : List (List Nat × List Nat)} (D : KDict K w d es n) (h : es.toList.map kvOf = kvs.map some) (s : List Nat) :
    (lookT s kvs = none → PySem.W.nsIn K d ⟨s.toArray⟩ = some none) ∧ ∀ y, lookT s kvs = some y → ∃ t, PySem.W.nsIn K d ⟨s.toArray⟩ = some (some (.str ⟨y.toArray⟩ t)) := by
  obtain ⟨i1, i2, i3⟩ := find_kv (s := s) h
  have nr : es.toList.any (fun e => e.refKey) = false := by
    rw [List.any_eq_false]
    intro e he
    obtain ⟨x, t, y, u, ek, ev⟩ := i1 e he
    unfold DictEntry.refKey
    rw [ek]
    simp
  constructor
  · intro hn
    unfold PySem.W.nsIn
    rw [D.at_]
    dsimp only
    rw [i2 hn]
    dsimp only
    rw [nr]
    rfl
  · intro y hy
    obtain ⟨e, t, e1, e2⟩ := i3 y hy
    refine ⟨t, ?_⟩
    unfold PySem.W.nsIn
    rw [D.at_]
    dsimp only
    rw [e1]
    dsimp only
    rw [e2]
section
variable {X : Cx} {M : Mo} {E : XK}
def eNinKD (kvs : List (List Nat × List Nat)) (f : EF) : EF := fun en S => (f en S).bind fun x S1 => match x with
  | .str s => .ok (.bl (match lookT s kvs with | some _ => false | none => true)) S1
  | _ => .bad
theorem se_ninKD {x : Str} {a : Expr} {kvs : List (List Nat × List Nat)} {d : Addr} {p pos : Pos} {f : EF} (hg : Gl X x) (hm : X.mg x = some (.ref d)) (D : DictIs X.K X.w d kvs) (ha : SE X M E a f) (hd : (x == ("__debug__" : Str)) = false := by decide) :
    SE X M E (.Compare a [.NotIn] [.Name x p] pos) (eNinKD kvs f) := by
  obtain ⟨t, pa, q⟩ := ha
  obtain ⟨es, n, kd, hk⟩ := D.ex
  refine ⟨_, pe_cmpR (op_notIn_kd kd) pa (pe_glob hg hm (show RelV (.ref d) (.ref d) from rfl) hd) rfl, fun r S en σ H Q he hs h => ?_⟩
  refine q r S en σ H _ he hs (Post.bind h fun x S1 r1 H1 v _ g1 q1 s1 h1 => ?_)
  cases x with
  | str s =>
    obtain ⟨i1, i2⟩ := nsIn_kv kd hk s
    cases e : lookT s kvs with
    | none =>
      simp only [e] at h1
      exact ⟨_, none, rd_str.mp q1, rfl, i1 e, Post.here h1 s1 (rd_bl.mpr rfl)⟩
    | some y =>
      simp only [e] at h1
      obtain ⟨t, e2⟩ := i2 y e
      exact ⟨_, _, rd_str.mp q1, rfl, e2, Post.here h1 s1 (rd_bl.mpr rfl)⟩
  | _ => exact h1.elim
def eIxKD (kvs : List (List Nat × List Nat)) (f : EF) : EF := fun en S => (f en S).bind fun x S1 => match x with
  | .str s => match lookT s kvs with
    | some y => .ok (.str y) S1
    | none => .bad
  | _ => .bad
theorem se_ixKD {x : Str} {a : Expr} {kvs : List (List Nat × List Nat)} {d : Addr} {p pos : Pos} {f : EF} (hg : Gl X x) (hm : X.mg x = some (.ref d)) (D : DictIs X.K X.w d kvs) (ha : SE X M E a f) (hd : (x == ("__debug__" : Str)) = false := by decide) (hs : PlainIx a := by intro _ _; rfl) :
    SE X M E (.Subscript (.Name x p) a pos) (eIxKD kvs f) := by
  obtain ⟨t, pa, q⟩ := ha
  obtain ⟨es, n, kd, hk⟩ := D.ex
  refine ⟨_, pe_ix ix_kdict (pe_glob hg hm (show RelV (.ref d) (.ref d) from rfl) hd) pa hs, fun r S en σ H Q he hs h => ?_⟩
  refine q r S en σ H _ he hs (Post.bind h fun x S1 r1 H1 v _ g1 q1 s1 h1 => ?_)
  cases x with
  | str s =>
    obtain ⟨i1, i2⟩ := nsIn_kv kd hk s
    simp only at h1
    cases e : lookT s kvs with
    | none => rw [e] at h1; exact h1.elim
    | some y =>
      rw [e] at h1
      obtain ⟨t, e2⟩ := i2 y e
      exact ⟨d, _, .str ⟨y.toArray⟩, rfl, rd_str.mp q1, ⟨es, n, _, kd.at_, kd.lit, e2, ⟨t, rfl⟩⟩, Post.here h1 s1 (rd_str.mpr rfl)⟩
  | _ => exact h1.elim
/-! ### == and != of tuples and lists, by data -/
mutual
def toPy : D → Option PyData
  | .non => some .none
  | .bl b => some (.bool b)
  | .int i => some (.int i)
  | .str s => some (.str ⟨s.toArray⟩)
  | .tup ds => match toPys ds with
    | some l => some (.tuple l)
    | none => none
  | .ob _ => none
  | .kl _ => none
def toPys : List D → Option (List PyData)
  | [] => some []
  | d :: ds => match toPy d, toPys ds with
    | some x, some l => some (x :: l)
    | _, _ => none
end
mutual
theorem toPy_ok {K : PySem.W.Frag} {r : List Addr} {H : Hp} : ∀ (d : D) (v : V) (x : PyData), toPy d = some x → RD K r H d v → Dp K H v x
  | .non, v, x, h, q => by
    unfold toPy at h
    cases h
    rw [rd_non.mp q]
    exact .non
  | .bl b, v, x, h, q => by
    unfold toPy at h
    cases h
    rw [rd_bl.mp q]
    exact .bl b
  | .int i, v, x, h, q => by
    unfold toPy at h
    cases h
    rw [rd_int.mp q]
    exact .int i
  | .str s, v, x, h, q => by
    unfold toPy at h
    cases h
    rw [rd_str.mp q]
    exact .str _
  | .tup ds, v, x, h, q => by
    unfold toPy at h
    obtain ⟨a, xs, e, h1, h2⟩ := rd_tup.mp q
    cases e2 : toPys ds with
    | none => rw [e2] at h; cases h
    | some l =>
      rw [e2] at h
      cases h
      rw [e]
      exact .tup (SqT.of h1) (toPys_ok ds xs l e2 h2)
  | .ob _, v, x, h, q => by unfold toPy at h; cases h
  | .kl _, v, x, h, q => by unfold toPy at h; cases h
theorem toPys_ok {K : PySem.W.Frag} {r : List Addr} {H : Hp} : ∀ (ds : List D) (vs : List V) (l : List PyData), toPys ds = some l → RDs K r H ds vs → DpAll K H vs l
  | [], vs, l, h, q => by
    unfold toPys at h
    cases h
    rw [rds_nil.mp q]
    exact .nil
  | d :: ds, vs, l, h, q => by
    unfold toPys at h
    obtain ⟨v, vr, e, h1, h2⟩ := rds_cons.mp q
    cases e1 : toPy d with
    | none => rw [e1] at h; cases h
    | some x =>
      cases e2 : toPys ds with
      | none => rw [e1, e2] at h; cases h
      | some l' =>
        rw [e1, e2] at h
        cases h
        rw [e]
        exact .cons (toPy_ok d v x e1 h1) (toPys_ok ds vr l' e2 h2)
end
def toPyS (S : Sto) (d : D) : Option PyData := match d with
  | .ob i => match listOf S (.ob i) with
    | some ds => match toPys ds with
      | some l => some (.list l)
      | none => none
    | none => none
  | d => toPy d
theorem toPyS_ok {K : PySem.W.Frag} {r : List Addr} {H : Hp} {S : Sto} {d : D} {v : V} {x : PyData} (h : toPyS S d = some x) (q : RD K r H d v) (hs : RS K M r S H) : Dp K H v x := by
  cases d with
  | ob i =>
    have h : (match listOf S (.ob i) with
      | some ds => match toPys ds with
        | some l => some (.list l)
        | none => none
      | none => none) = some x := h
    cases e1 : listOf S (.ob i) with
    | none => rw [e1] at h; cases h
    | some ds =>
      rw [e1] at h
      simp only at h
      cases e2 : toPys ds with
      | none => rw [e2] at h; cases h
      | some l =>
        rw [e2] at h
        cases h
        obtain ⟨a, xs, e, h1, h2⟩ := listOf_ok e1 q hs
        rw [e]
        exact .lst h1 (toPys_ok ds xs l e2 h2)
  | non => exact toPy_ok .non v x h q
  | bl b => exact toPy_ok (.bl b) v x h q
  | int b => exact toPy_ok (.int b) v x h q
  | str b => exact toPy_ok (.str b) v x h q
  | tup b => exact toPy_ok (.tup b) v x h q
  | kl b => exact toPy_ok (.kl b) v x h q
def oEqD (neg : Bool) : OF := fun x y S => match toPyS S x, toPyS S y with
  | some d, some e => match SeqAt.shaped d && SeqAt.shaped e with
    | true => .ok (.bl (match neg with | true => !PyData.eqv d e | false => PyData.eqv d e)) S
    | false => .bad
  | _, _ => .bad
theorem ok_eqD : OpOk X.K M E (rEqD X.K) (oEqD false) := by
  intro r S H x y u v Q hx hy hs h
  unfold oEqD at h
  split at h
  · rename_i d e e1 e2
    cases e3 : SeqAt.shaped d && SeqAt.shaped e with
    | false => rw [e3] at h; exact h.elim
    | true =>
      rw [e3] at h
      have e4 := Bool.and_eq_true_iff.mp e3
      exact ⟨d, e, toPyS_ok e1 hx hs, toPyS_ok e2 hy hs, e4.1, e4.2, Post.here h hs (rd_bl.mpr rfl)⟩
  · exact h.elim
theorem ok_neD : OpOk X.K M E (rNeD X.K) (oEqD true) := by
  intro r S H x y u v Q hx hy hs h
  unfold oEqD at h
  split at h
  · rename_i d e e1 e2
    cases e3 : SeqAt.shaped d && SeqAt.shaped e with
    | false => rw [e3] at h; exact h.elim
    | true =>
      rw [e3] at h
      have e4 := Bool.and_eq_true_iff.mp e3
      exact ⟨d, e, toPyS_ok e1 hx hs, toPyS_ok e2 hy hs, e4.1, e4.2, Post.here h hs (rd_bl.mpr rfl)⟩
  · exact h.elim
theorem se_eqD {a b : Expr} {pos : Pos} {f g : EF} (cx : CtxE X E) (ha : SE X M E a f) (hb : SE X M E b g) : SE X M E (.Compare a [.Eq] [b] pos) (eOp (oEqD false) f g) := se_cmp (op_eqD (by have := cx.hu; omega)) ok_eqD ha hb (nomark _)
theorem se_neD {a b : Expr} {pos : Pos} {f g : EF} (cx : CtxE X E) (ha : SE X M E a f) (hb : SE X M E b g) : SE X M E (.Compare a [.NotEq] [b] pos) (eOp (oEqD true) f g) := se_cmp (op_neD (by have := cx.hu; omega)) ok_neD ha hb (nomark _)
/-! ### [*s, .., x] -/
def signsD : List Nat → List D
  | [] => []
  | c :: r => .str [c] :: signsD r
def signsV (s : List Nat) : List V := s.map fun c => V.str ⟨#[c]⟩
theorem signsD_ok {K : PySem.W.Frag} {r : List Addr} {H : Hp} : ∀ s : List Nat, RDs K r H (signsD s) (signsV s)
  | [] => rds_nil.mpr rfl
  | c :: s => rds_cons.mpr ⟨_, _, rfl, rd_str.mpr rfl, signsD_ok s⟩
theorem vals_signs {y : Str} {acc : Array Value} (h : ItemsOf (SignAt y) acc y.cps.size) : Vals (signsV y.cps.toList) acc.toList := by
  have key : ∀ (l : List Nat) (us : List Value) (k : Nat), l.length = us.length → (∀ (j c : Nat), l[j]? = some c → ∃ (u : Value) (t : Tok), us[j]? = some u ∧ u = Value.str ⟨#[c]⟩ t) → Vals (signsV l) us := by
    intro l
    induction l with
    | nil =>
      intro us k hl _
      cases us with
      | nil => exact .nil
      | cons => cases hl
    | cons c l ih =>
      intro us k hl hj
      cases us with
      | nil => cases hl
      | cons u us =>
        obtain ⟨u', t, e1, e2⟩ := hj 0 c rfl
        have e1 : u = u' := by simpa using e1
        subst e1
        refine .cons ⟨t, e2⟩ (ih us k (by simpa using hl) fun j c' e => ?_)
        obtain ⟨u2, t2, e3, e4⟩ := hj (j + 1) c' (by simpa using e)
        exact ⟨u2, t2, by simpa using e3, e4⟩
  refine key _ _ 0 (by rw [Array.length_toList, Array.length_toList]; exact h.1.symm) fun j c e => ?_
  have hj : j < acc.size := by
    have := (List.getElem?_eq_some_iff.mp e).1
    rw [h.1]
    simpa using this
  obtain ⟨c', u, hc, hv⟩ := h.2 j _ (Array.getElem?_eq_getElem hj)
  have e3 : y.cps[j]? = some c := by rw [← Array.getElem?_toList]; exact e
  rw [hc] at e3
  cases e3
  exact ⟨_, u, by rw [Array.getElem?_toList]; exact Array.getElem?_eq_getElem hj, hv⟩
theorem str_iter_slot : typeLookup (.type "str") "__iter__" = pure (some (.builtin "str.__iter__")) := by rw [typeLookup_type, builtinLookup_eq_fast]; kernel_rfl
def tStarS (te : TE) (t : TA) : TA := fun σ H Q => te σ H fun x H1 => ∃ y : Str, x = V.str y ∧ y.length ≤ sizeLine ∧ t σ H1 fun ys H2 => Q (signsV y.cps.toList ++ ys) H2
theorem pa_starS {e : Expr} {es : List Expr} {p : Pos} {te : TE} {t : TA} (hc : X.calm = true) (he : PE X e te) (hr : PA X es t) (hs : starEach (.Starred e p :: es) X.env = (true, eval e X.env) :: starEach es X.env := by rfl) : PA X (.Starred e p :: es) (tStarS te t) := by
  refine ⟨fun pos pins s σ H Q I h => ?_⟩
  refine PySem.W.items_star (thn (he.run pins s σ H _ I h) fun v s1 ⟨x, H1, I1, rx, y, ex, hz, q⟩ => ?_) hs
  subst ex
  obtain ⟨tk, rfl⟩ := rx
  unfold PySem.W.StarOf notIterableAtAll
  refine wpAny_bind (wpAny_specialOf (typeIs_str s1 y tk) str_iter_slot (wpAny_pure ⟨rfl, ?_⟩))
  refine wpAny_collect_str (I1.ok.hd hc) y tk (fun s2 acc hk hg hd ho hacc => ?_) hz
  have I2 : Inv X pins σ H1 s2 := by
    have J := I1.kept (t' := s2.toks) hk
    obtain ⟨hp, g, d, tk2, os⟩ := s2
    simp only at hg hd ho
    subst hg hd ho
    exact J
  exact thn (hr.run pos pins s2 σ H1 _ I2 q) fun ws s3 ⟨vs, H3, I3, r3, q3⟩ => ⟨_, H3, I3, (vals_signs hacc).append r3, q3⟩
structure SL (X : Cx) (M : Mo) (E : XK) (es : List Expr) (f : AF) : Prop where
  ex : ∃ te, PA X es te ∧ ∀ r S en σ H Q, RE X.K r H en σ → RS X.K M r S H → Post (RDs X.K) X.K M r H Q E (f en S) → te σ H Q
theorem SA.sl {es : List Expr} {f : AF} (h : SA X M E es f) : SL X M E es f := ⟨h.ex⟩
def aStar (f : EF) (g : AF) : AF := fun en S => (f en S).bind fun x S1 => match x with
  | .str s => match Nat.ble s.length lim with
    | true => (g en S1).bind fun xs S2 => .ok (signsD s ++ xs) S2
    | false => .bad
  | _ => .bad
theorem sl_star {e : Expr} {es : List Expr} {p : Pos} {f : EF} {g : AF} (cx : CtxE X E) (ha : SE X M E e f) (hr : SL X M E es g) (hs : starEach (.Starred e p :: es) X.env = (true, eval e X.env) :: starEach es X.env := by rfl) : SL X M E (.Starred e p :: es) (aStar f g) := by
  obtain ⟨ta, pa, qa⟩ := ha
  obtain ⟨tb, pb, qb⟩ := hr
  refine ⟨_, pa_starS cx.calm pa pb hs, fun r S en σ H Q he hs h => ?_⟩
  refine qa r S en σ H _ he hs (Post.bind h fun x S1 r1 H1 u _ g1 q1 s1 h1 => ?_)
  cases x with
  | str s =>
    simp only at h1
    cases e : Nat.ble s.length lim with
    | false => rw [e] at h1; exact h1.elim
    | true =>
      rw [e] at h1
      refine ⟨_, rd_str.mp q1, by rw [str_len]; exact lim_le e, ?_⟩
      refine qb r1 S1 en σ H1 _ (he.mono g1) s1 (Post.bind h1 fun y S2 r2 H2 v _ g2 q2 s2 h2 => ?_)
      refine Post.here h2 s2 ?_
      have e2 : (⟨s.toArray⟩ : Str).cps.toList = s := by simp
      rw [e2]
      exact (signsD_ok s).append q2
  | _ => exact h1.elim
theorem se_lstS {es : List Expr} {pos : Pos} {g : AF} (h : SL X M E es g) : SE X M E (.List es pos) (eLst g) := by
  obtain ⟨t, p, q⟩ := h
  refine ⟨_, pe_lst p, fun r S en σ H Q he hs h => ?_⟩
  refine q r S en σ H _ he hs (Post.bind h fun ds S1 r1 H1 vs _ g1 q1 s1 h1 => ?_)
  cases e : Nat.ble ds.length lim with
  | false => rw [e] at h1; exact h1.elim
  | true =>
    rw [e] at h1
    exact ⟨by rw [← q1.length]; exact lim_le e, new_lst s1 q1 h1⟩
/-! ### join over a text -/
theorem mt_joinS (hc : X.calm = true) : MtR X "str.join" (fun x xs H Q => ∃ a y : Str, x = .str a ∧ xs = [.str y] ∧ JoinOk a (signs y) = true ∧ Q (.str (Txt.join a (signs y))) H) := by
  intro pins s σ H x xs v us Q I rx rs h
  obtain ⟨a, y, rfl, rfl, hz, h⟩ := h
  obtain ⟨t, rfl⟩ := rx
  cases rs with
  | cons r1 rs =>
    cases rs
    obtain ⟨u, rfl⟩ := r1
    exact SC.joinStr (I.ok.hd hc) hz fun h' k t' hk => ⟨.str _, H, I.kept hk, ⟨t', rfl⟩, h⟩
def oJoinS : MF := fun x ys S => match x, ys with
  | .str a, [.str y] => match JoinOk ⟨a.toArray⟩ (signs ⟨y.toArray⟩) with
    | true => .ok (.str (Txt.join ⟨a.toArray⟩ (signs ⟨y.toArray⟩)).cps.toList) S
    | false => .bad
  | _, _ => .bad
theorem ok_joinS : MethOk X.K M E (fun x xs H Q => ∃ a y : Str, x = .str a ∧ xs = [.str y] ∧ JoinOk a (signs y) = true ∧ Q (.str (Txt.join a (signs y))) H) oJoinS := by
  intro r S H d ds v vs Q hx hy hs h
  unfold oJoinS at h
  split at h
  · rename_i a y
    obtain ⟨w, e, hw⟩ := rds1 hy
    subst e
    cases e : JoinOk ⟨a.toArray⟩ (signs ⟨y.toArray⟩) with
    | false => rw [e] at h; exact h.elim
    | true =>
      rw [e] at h
      exact ⟨_, _, rd_str.mp hx, by rw [rd_str.mp hw], e, Post.here h hs (rd_str.mpr (congrArg V.str (str_eta _)))⟩
  · exact h.elim
/-! ### xs * n -/
def repD : Nat → List D → List D
  | 0, _ => []
  | n + 1, l => l ++ repD n l
theorem repD_ok {K : PySem.W.Frag} {r : List Addr} {H : Hp} {l : List D} {vs : List V} (h : RDs K r H l vs) : ∀ n : Nat, RDs K r H (repD n l) (List.replicate n vs).flatten
  | 0 => rds_nil.mpr rfl
  | n + 1 => by
    rw [List.replicate_succ, List.flatten_cons]
    exact h.append (repD_ok h n)
def oRep : OF := fun x y S => match x, y with
  | .ob i, .int (.ofNat n) => match nth S i with
    | some (.lst ds) => match Nat.ble (ds.length * n) lim && Nat.ble n lim with
      | true => .ok (.ob S.length) (S ++ [.lst (repD n ds)])
      | false => .bad
    | _ => .bad
  | _, _ => .bad
theorem ok_rep : OpOk X.K M E rRep oRep := by
  intro r S H x y u v Q hx hy hs h
  unfold oRep at h
  split at h
  · rename_i i n
    rw [nth_eq] at h
    obtain ⟨a, h1, e1⟩ := rd_mut.mp hx
    split at h
    · rename_i ds e3
      cases e : Nat.ble (ds.length * n) lim && Nat.ble n lim with
      | false => rw [e] at h; exact h.elim
      | true =>
        rw [e] at h
        obtain ⟨e5, e6⟩ := Bool.and_eq_true_iff.mp e
        obtain ⟨xs, h3, h4⟩ := hs.obj i a _ h1 e3
        have e7 : n ≤ 100000 := leB_le e6
        refine ⟨a, (n : Int), xs, e1, rd_int.mp hy, h3, by omega, by omega, ?_, ?_⟩
        · rw [← h4.length]
          exact lim_le e5
        · exact new_lst hs (repD_ok h4 n) h
    · exact h.elim
  · exact h.elim
theorem se_rep {a b : Expr} {pos : Pos} {f g : EF} (ha : SE X M E a f) (hb : SE X M E b g) : SE X M E (.BinOp a .Mult b pos) (eOp oRep f g) := se_op op_rep ok_rep ha hb
end
end Kv

/-! The end: the tables of the defs; defs by their bodies. -/
namespace Kv
open PySem PySem.Spec PyProof.Rows L2 GenW
/-- the tables of the defs of the text, as the top leaves them -/
def TabsOf (q : Program) (mg : Str → Option Value) (h : Heap) : Prop := ∀ (nm : Str) (f : Addr), ((recsOf q).any fun e => e.name == nm) = true → mg nm = some (.ref f) → ∃ o fd c P, h.get? f = some o ∧ o.data = .func fd ∧ fd.code = .ref c ∧ h.IsCode c P #[] ∧ h.TableAt c P #[]
theorem walk_tabs {l : PySem.W.OpenLaw} {n k : Nat} {q : Program} {loose : List Str} {XP : (Str → Option Value) → Heap → Prop} {YP : World → Heap → Prop} {d : DefRec} {K : Params → PySem.W.Frag} {CX : World → CXT} {x : Str}
    (hn : l.most = some n) (hn2 : n ≤ sizeLine) (hdf : d.params.defaults = []) (hr : Room k callerA) (hY : ∀ (w : World) (h : Heap), YP w h → (K w.params).In h)
    (F : ∀ (w : World) (mg : Str → Option Value) (fa : Addr) (h : Heap), YP w h → (K w.params).In h → h.Ns mainGlobals mg → mg d.name = some (.ref fa) → TabsOf q mg h → LamX.LawAtS l w (K w.params) (CX w) k n x mg fa h)
    (hCX : ∀ (w : World) (H : Hp) (s : Shared) (e : Value) (s' : Shared), CX w [] H s (fun _ _ _ => False) e s' → False) :
    PySem.W.WalkO q loose XP YP l.row.toRowW d [] (fun f vs => PySem.call f vs) := by
  refine Att.attach_callB hn hdf fun w s₀ s₁ mg mb fa o pm cd doc a vs ns G Y ho hd hcd hmg hobj hints hlen hbits hg => ?_
  have KX := hY w _ Y
  have own : TabsOf q mg s₁.heap := fun nm f hrec hf => by
    obtain ⟨dL, hm, hn1⟩ := List.any_eq_true.mp hrec
    have hn2 : dL.name = nm := beq_iff_eq.mp hn1
    obtain ⟨a', o', fd', c', P', h1, h2, h3, h4, h5, h6⟩ := G.T.tab dL hm
    rw [hn2, hf] at h1
    cases h1
    exact ⟨o', fd', c', P', h2, h3, h4, h5, h6⟩
  obtain ⟨fd, cs, sp, hT, nT, C, hb, hsp, hF⟩ := F w mg fa _ Y KX G.T.g hmg own
  exact LamX.law_callTs KX G.T.g G.T.b G.T.builtins G.T.nolimit hg hT nT C G.T.bmain hobj hints (Nat.le_trans hlen hn2) hr hF hb (fun H hH hS => hsp H a ns hlen hbits hH hS) fun H e s' => hCX w H s₁ e s'
end Kv

/-! Defs by their bodies; what a call leaves is cut off; replace. -/
namespace Kv
open PySem PySem.Spec PyProof.Rows L2 GenW
structure FunC (K : PySem.W.Frag) (x qual : Str) (st : Stmt) (f : Addr) (cdv : Value) (fd : FuncData) : Prop where
  ex : ∃ (oc : Value) (od : Option Addr) (kV doc pm : Value) (an : Option Addr) (ct : Value) (osl : Array (Option Value)),
    fd = PySem.W.fnOf x qual (defArgs st) (defBody st) (defScope st) .none kV doc pm an cdv ct ∧ K.lookup f = some ⟨oc, od, .func fd, osl⟩ ∧ PySem.W.codeIn K cdv qual = true
  kp : PySem.W.keepIn K (.ref f) = true
theorem funC_mk {K : PySem.W.Frag} {x qual : Str} {st : Stmt} {f : Addr} {oc : Value} {od an : Option Addr} {osl : Array (Option Value)} {kV doc pm cdv ct : Value} (l : K.lookup f = some ⟨oc, od, .func (PySem.W.fnOf x qual (defArgs st) (defBody st) (defScope st) .none kV doc pm an cdv ct), osl⟩)
    (c : PySem.W.codeIn K cdv qual = true) (k : PySem.W.keepIn K (.ref f) = true) : FunC K x qual st f cdv (PySem.W.fnOf x qual (defArgs st) (defBody st) (defScope st) .none kV doc pm an cdv ct) := ⟨⟨oc, od, kV, doc, pm, an, ct, osl, rfl, l, c⟩, k⟩
theorem FunC.binds {K : PySem.W.Frag} {x qual : Str} {st : Stmt} {f : Addr} {cdv : Value} {fd : FuncData} {ps : List Str} (F : FunC K x qual st f cdv fd)
    (h : ∀ (kV doc pm : Value) (an : Option Addr) (cdv ct : Value) (us : List Value), us.length = ps.length → bindArgs (PySem.W.fnOf x qual (defArgs st) (defBody st) (defScope st) .none kV doc pm an cdv ct) ⟨us, []⟩ = pure (ps.zip us)) : Binds K fd ps [] := by
  obtain ⟨oc, od, kV, doc, pm, an, ct, osl, rfl, lk, hcd⟩ := F.ex
  exact .all (h kV doc pm an cdv ct)
def runF (nl : Nat) (b : SF) : CF := fun ds S => match b (ds.map some ++ List.replicate nl none) S with
  | .nx _ S1 => .ok .non S1
  | .rt d S1 => .ok d S1
  | .exc c S1 => .exc c S1
  | _ => .bad
theorem re_start {K : PySem.W.Frag} {r : List Addr} {H : Hp} {N : List Str} {nl : Nat} {ds : List D} {vs : List V} (q : RDs K r H ds vs) (h : N.length = ds.length + nl) : RE K r H (ds.map some ++ List.replicate nl none) (L2.start N vs) := by
  have hl := q.length
  refine ⟨?_, fun i d e => ?_⟩
  · unfold L2.start
    rw [List.length_append, List.length_append, List.length_map, List.length_map, List.length_replicate, List.length_replicate, h]
    omega
  · by_cases hi : i < ds.length
    · rw [List.getElem?_append_left (by simpa using hi), List.getElem?_map] at e
      cases e2 : ds[i]? with
      | none => rw [e2] at e; cases e
      | some d' =>
        rw [e2] at e
        cases e
        obtain ⟨v, h1, h2⟩ := q.get e2
        refine ⟨v, ?_, h2⟩
        unfold L2.start
        rw [List.getElem?_append_left (by rw [List.length_map, ← hl]; exact hi), List.getElem?_map, h1]
        rfl
    · rw [List.getElem?_append_right (by simpa using hi)] at e
      rw [List.getElem?_replicate] at e
      split at e <;> cases e
section
variable {P : Program} {w : World} {K : PySem.W.Frag} {mg : Str → Option Value} {base : Heap} {M : Mo}
theorem ctx_of {N : List Str} {qual : Str} {sc : Scope} {f : Addr} {cdv : Value} {A : Around} {outer : List Env} {s : Shared} {H : Hp} {E : XK} {k : Nat} (hN : N.Nodup) (hr : Room k (A.deeper (envOfC qual sc s.heap.objs.size f cdv))) : CtxOk (cxOf (L2.CX P w) P w K mg base N qual sc f cdv A outer s H E) E :=
  ⟨rfl, takes_of rfl rfl rfl rfl, passes_of rfl, (by
    have := hr.un
    show (A.deeper (envOfC qual sc s.heap.objs.size f cdv)).units + 65 < cLine
    omega), hN⟩
theorem fnG_mk {x qual : Str} {st : Stmt} {f : Addr} {cdv : Value} {fd : FuncData} {N ps : List Str} {k nl : Nat} {b : SF} (C : FunC K x qual st f cdv fd) (S : FnScope N ps (defScope st)) (bn : Binds K fd ps []) (hnl : N.length = ps.length + nl)
    (hb : ∀ (A : Around) (outer : List Env) (s : Shared) (H : Hp) (E : XK), Room k (A.deeper (envOfC qual (defScope st) s.heap.objs.size f cdv)) → SSs (cxOf (L2.CX P w) P w K mg base N qual (defScope st) f cdv A outer s H E) M E (defBody st) b) : FnG P w K mg base M (k + 1) f fd ps (runF nl b) := by
  obtain ⟨oc, od, kV, doc, pm, an, ct, osl, rfl, lk, hcd⟩ := C.ex
  refine ⟨fn_of lk hcd S (fun vs H Q E h => ?_) (fun A outer s H vs Q E hr hsp => ?_), bn, C.kp⟩
  · obtain ⟨r, S', ds, hl, q, _⟩ := h
    rw [← q.length, hl]
  · obtain ⟨r, S', ds, hl, q, hs, hp⟩ := hsp
    obtain ⟨ts, p, qq⟩ := (hb A outer s H E hr).ex
    refine ⟨ts, p, qq r S' (ds.map some ++ List.replicate nl none) (L2.start N vs) H _ (re_start q (by rw [hnl, hl])) hs ?_⟩
    unfold runF at hp
    cases e : b (ds.map some ++ List.replicate nl none) S' with
    | nx en S1 =>
      rw [e] at hp
      exact fun r' H' σ' g he hs' => hp r' H' .non g (rd_non.mpr rfl) hs'
    | rt d S1 =>
      rw [e] at hp
      exact fun r' H' v g hd hs' => hp r' H' v g hd hs'
    | exc c S1 => rw [e] at hp; exact hp
    | bk en S1 => rw [e] at hp; exact hp.elim
    | ct en S1 => rw [e] at hp; exact hp.elim
    | bad => rw [e] at hp; exact hp.elim
theorem fnG_bad {x qual : Str} {st : Stmt} {f : Addr} {cdv : Value} {fd : FuncData} {ps : List Str} (C : FunC K x qual st f cdv fd) (bn : Binds K fd ps []) : FnG P w K mg base M 0 f fd ps (fun _ _ => .bad) :=
  ⟨⟨fun vs H Q E h => by obtain ⟨r, S', ds, hl, q, _⟩ := h; rw [← q.length, hl], fun A outer s H args us vs Q E hr he hb hv h => by obtain ⟨r, S', ds, hl, q, hs, hp⟩ := h; exact hp.elim⟩, bn, C.kp⟩
theorem FnG.mono {f : Addr} {fd : FuncData} {ps : List Str} {j k : Nat} {F : CF} (G : FnG P w K mg base M j f fd ps F) (h : j ≤ k) : FnG P w K mg base M k f fd ps F := ⟨G.ok.mono h, G.bn, G.kp⟩
end
/-! ### what a call leaves behind is cut off -/
mutual
def closD (n : Nat) : D → Bool
  | .tup ds => closDs n ds
  | .ob i => Nat.blt i n
  | .kl ds => closDs n ds
  | _ => true
def closDs (n : Nat) : List D → Bool
  | [] => true
  | d :: ds => match closD n d with
    | true => closDs n ds
    | false => false
end
def closF (n : Nat) : List (Nat × D) → Bool
  | [] => true
  | q :: qs => match closD n q.2 with
    | true => closF n qs
    | false => false
def closK (n : Nat) : List (List Nat × D) → Bool
  | [] => true
  | q :: qs => match closD n q.2 with
    | true => closK n qs
    | false => false
def closO (n : Nat) : MO → Bool
  | .lst ds => closDs n ds
  | .ins fs => closF n fs
  | .dk ks => closK n ks
def closS (n : Nat) : Sto → Bool
  | [] => true
  | o :: S => match closO n o with
    | true => closS n S
    | false => false
section
variable {K : PySem.W.Frag} {M : Mo} {r : List Addr} {H : Hp} {n : Nat}
mutual
theorem rd_take : ∀ (d : D) (v : V), closD n d = true → RD K r H d v → RD K (r.take n) H d v
  | .non, v, _, h => by rw [rd_non] at h ⊢; exact h
  | .bl b, v, _, h => by rw [rd_bl] at h ⊢; exact h
  | .int i, v, _, h => by rw [rd_int] at h ⊢; exact h
  | .str s, v, _, h => by rw [rd_str] at h ⊢; exact h
  | .tup ds, v, c, h => by
    unfold closD at c
    obtain ⟨a, xs, e, h1, h2⟩ := rd_tup.mp h
    exact rd_tup.mpr ⟨a, xs, e, h1, rds_take ds xs c h2⟩
  | .ob i, v, c, h => by
    unfold closD at c
    obtain ⟨a, h1, e⟩ := rd_mut.mp h
    have hi : i < n := Nat.le_of_ble_eq_true c
    exact rd_mut.mpr ⟨a, by rw [List.getElem?_take_of_lt hi]; exact h1, e⟩
  | .kl ds, v, c, h => by
    unfold closD at c
    obtain ⟨a, xs, e, h1, h2⟩ := rd_kl.mp h
    exact rd_kl.mpr ⟨a, xs, e, h1, rds_take ds xs c h2⟩
theorem rds_take : ∀ (ds : List D) (vs : List V), closDs n ds = true → RDs K r H ds vs → RDs K (r.take n) H ds vs
  | [], vs, _, h => rds_nil.mpr (rds_nil.mp h)
  | d :: ds, vs, c, h => by
    unfold closDs at c
    obtain ⟨v, vr, e, h1, h2⟩ := rds_cons.mp h
    cases e1 : closD n d with
    | false => rw [e1] at c; cases c
    | true =>
      rw [e1] at c
      exact rds_cons.mpr ⟨v, vr, e, rd_take d v e1 h1, rds_take ds vr c h2⟩
end
theorem rf_take : ∀ {fs : List (Nat × D)} {fv : List (Str × V)}, closF n fs = true → RFs K r H fs fv → RFs K (r.take n) H fs fv
  | [], fv, _, h => h
  | q :: qs, fv, c, ⟨h0, v, fr, e, h1, h2⟩ => by
    unfold closF at c
    cases e1 : closD n q.2 with
    | false => rw [e1] at c; cases c
    | true =>
      rw [e1] at c
      exact ⟨h0, v, fr, e, rd_take _ _ e1 h1, rf_take c h2⟩
theorem rk_take : ∀ {fs : List (List Nat × D)} {fv : List (Key × V)}, closK n fs = true → RKs K r H fs fv → RKs K (r.take n) H fs fv
  | [], fv, _, h => h
  | q :: qs, fv, c, ⟨v, fr, e, h1, h2⟩ => by
    unfold closK at c
    cases e1 : closD n q.2 with
    | false => rw [e1] at c; cases c
    | true =>
      rw [e1] at c
      exact ⟨v, fr, e, rd_take _ _ e1 h1, rk_take c h2⟩
theorem closS_at : ∀ {S : Sto} {i : Nat} {o : MO}, closS n S = true → S[i]? = some o → closO n o = true
  | [], _, _, _, e => by simp at e
  | o :: S, 0, _, c, e => by
    unfold closS at c
    simp at e
    subst e
    cases e1 : closO n o with
    | false => rw [e1] at c; cases c
    | true => rfl
  | o :: S, i + 1, _, c, e => by
    unfold closS at c
    cases e1 : closO n o with
    | false => rw [e1] at c; cases c
    | true =>
      rw [e1] at c
      exact closS_at c (by simpa using e)
theorem RS.take {S : Sto} (R : RS K M r S H) (c : closS n (S.take n) = true) : RS K M (r.take n) (S.take n) H := by
  have lt : ∀ {α : Type} {l : List α} {i : Nat} {x : α}, (l.take n)[i]? = some x → i < n ∧ l[i]? = some x := fun {α l i x} e => by
    by_cases hi : i < n
    · rw [List.getElem?_take_of_lt hi] at e
      exact ⟨hi, e⟩
    · rw [List.getElem?_eq_none (by rw [List.length_take]; omega)] at e
      cases e
  refine ⟨by rw [List.length_take, List.length_take, R.len], fun i a o h1 h2 => ?_, fun i j a h1 h2 => R.nd i j a (lt h1).2 (lt h2).2, R.tab, R.lam⟩
  have q := R.obj i a o (lt h1).2 (lt h2).2
  have co := closS_at c h2
  cases o with
  | lst ds => obtain ⟨xs, h, z⟩ := q; exact ⟨xs, h, rds_take _ _ co z⟩
  | ins fs => obtain ⟨dx, fv, h, z⟩ := q; exact ⟨dx, fv, h, rf_take co z⟩
  | dk ks => obtain ⟨kv, h, z⟩ := q; exact ⟨kv, h, rk_take co z⟩
end
def cutF (F : CF) : CF := fun ds S => match F ds S with
  | .ok d S1 => match closD S.length d with
    | true => match closS S.length (S1.take S.length) with
      | true => .ok d (S1.take S.length)
      | false => .bad
    | false => .bad
  | .exc c S1 => match closS S.length (S1.take S.length) with
    | true => .exc c (S1.take S.length)
    | false => .bad
  | .bad => .bad
theorem FnG.cutF {P : Program} {w : World} {K : PySem.W.Frag} {mg : Str → Option Value} {base : Heap} {M : Mo} {f : Addr} {fd : FuncData} {ps : List Str} {k : Nat} {F : CF} (G : FnG P w K mg base M k f fd ps F) : FnG P w K mg base M k f fd ps (cutF F) := by
  refine ⟨G.ok.imp fun vs H Q E h => ?_, G.bn, G.kp⟩
  obtain ⟨r, S, ds, hl, q, hs, hp⟩ := h
  refine ⟨r, S, ds, hl, q, hs, ?_⟩
  have pre : ∀ {r' : List Addr} {H' : Hp}, Grow r H r' H' → Grow r H (r'.take S.length) H' := fun {r' H'} g => ⟨fun i a e => by
    rw [List.getElem?_take_of_lt (by rw [← hs.len]; exact (List.getElem?_eq_some_iff.mp e).1)]
    exact g.pre i a e, g.tup, g.frz⟩
  unfold Kv.cutF at hp
  cases e : F ds S with
  | bad => rw [e] at hp; exact hp.elim
  | exc c S1 =>
    rw [e] at hp
    simp only at hp
    cases e1 : closS S.length (S1.take S.length) with
    | false => rw [e1] at hp; exact hp.elim
    | true =>
      rw [e1] at hp
      exact fun r' H' g hs' => hp _ _ (pre g) (hs'.take e1)
  | ok d S1 =>
    rw [e] at hp
    simp only at hp
    cases e0 : closD S.length d with
    | false => rw [e0] at hp; exact hp.elim
    | true =>
      rw [e0] at hp
      simp only at hp
      cases e1 : closS S.length (S1.take S.length) with
      | false => rw [e1] at hp; exact hp.elim
      | true =>
        rw [e1] at hp
        exact fun r' H' v g hd hs' => hp _ _ v (pre g) (rd_take _ _ e0 hd) (hs'.take e1)
end Kv

/-! Short forms for the printed defs. -/
namespace Kv
open PySem PySem.Spec PyProof.Rows L2 GenW
def top (i : Nat) : Stmt := PySem.Challenge.pw_staged_k14_whole_texts_refused.main.body.getD i (.Pass ⟨0, 0, 0, 0⟩)
section
variable {X : Cx} {M : Mo} {E : XK}
theorem CtxE.gen (c : CtxE X E) {k : Nat} {s : Shared} {H : Hp} {cenv : Env} {A' : Around} {fp : List Addr} (hr : Room k A') : CtxE (gCx X s H cenv A' fp) E0 :=
  ⟨c.calm, fun _ _ _ _ _ _ _ z => by obtain ⟨_, _, _, _, _, _, _, _, _, _, _, _, z⟩ := z; exact z.elim, (by
    have := hr.un
    show A'.units + 65 < cLine
    omega), c.nd⟩
theorem CtxE.blk (c : CtxE X E) {s : Shared} {H : Hp} {scope : Scope} {cenv : Env} {fp : List Addr} : CtxE (X.blk s H scope cenv fp) E0 :=
  ⟨c.calm, fun _ _ _ _ _ _ _ z => by obtain ⟨_, _, _, _, _, _, _, _, _, _, _, _, z⟩ := z; exact z.elim, c.hu, c.nd⟩
theorem st_isN {a : Expr} {j : Nat} {pos pos' : Pos} {f : EF} (ha : SE X M E a f) : ST X M E (.Compare a [.Is] [.Constant .none j pos'] pos) (bT (eIsN f)) := by
  obtain ⟨ta, pa, qa⟩ := ha
  refine ⟨_, pt_cmp (pc_isN pa) rfl, tB_ok fun r S en σ H Q he hs h => ?_⟩
  refine qa r S en σ H _ he hs (Post.bind h fun x S1 r1 H1 u _ g1 q1 s1 h1 => ?_)
  exact Post.here h1 s1 (rd_bl.mpr (by rw [isNon_ok q1]))
theorem st_ninKD {x : Str} {a : Expr} {kvs : List (List Nat × List Nat)} {d : Addr} {p pos : Pos} {f : EF} (hg : Gl X x) (hm : X.mg x = some (.ref d)) (D : DictIs X.K X.w d kvs) (ha : SE X M E a f) (hd : (x == ("__debug__" : Str)) = false := by decide) :
    ST X M E (.Compare a [.NotIn] [.Name x p] pos) (bT (eNinKD kvs f)) := by
  obtain ⟨t, pa, q⟩ := ha
  obtain ⟨es, n, kd, hk⟩ := D.ex
  refine ⟨_, pt_cmpR (op_notIn_kd kd) pa (pe_glob hg hm (show RelV (.ref d) (.ref d) from rfl) hd) rfl, tB_ok fun r S en σ H Q he hs h => ?_⟩
  refine q r S en σ H _ he hs (Post.bind h fun x S1 r1 H1 v _ g1 q1 s1 h1 => ?_)
  cases x with
  | str s =>
    obtain ⟨i1, i2⟩ := nsIn_kv kd hk s
    cases e : lookT s kvs with
    | none =>
      simp only [e] at h1
      exact ⟨_, none, rd_str.mp q1, rfl, i1 e, Post.here h1 s1 (rd_bl.mpr rfl)⟩
    | some y =>
      simp only [e] at h1
      obtain ⟨t, e2⟩ := i2 y e
      exact ⟨_, _, rd_str.mp q1, rfl, e2, Post.here h1 s1 (rd_bl.mpr rfl)⟩
  | _ => exact h1.elim
theorem st_eq {a b : Expr} {pos : Pos} {f g : EF} (ha : SE X M E a f) (hb : SE X M E b g) : ST X M E (.Compare a [.Eq] [b] pos) (bT (eOp oEq f g)) := st_cmp op_eq ok_eq ha hb (nomark _)
theorem st_ne {a b : Expr} {pos : Pos} {f g : EF} (ha : SE X M E a f) (hb : SE X M E b g) : ST X M E (.Compare a [.NotEq] [b] pos) (bT (eOp oNe f g)) := st_cmp op_ne ok_ne ha hb (nomark _)
theorem st_lt {a b : Expr} {pos : Pos} {f g : EF} (ha : SE X M E a f) (hb : SE X M E b g) : ST X M E (.Compare a [.Lt] [b] pos) (bT (eOp (oI ltI) f g)) := st_cmp op_lt ok_lt ha hb (nomark _)
theorem st_le {a b : Expr} {pos : Pos} {f g : EF} (ha : SE X M E a f) (hb : SE X M E b g) : ST X M E (.Compare a [.LtE] [b] pos) (bT (eOp (oI leI) f g)) := st_cmp op_le ok_le ha hb (nomark _)
theorem st_gt {a b : Expr} {pos : Pos} {f g : EF} (ha : SE X M E a f) (hb : SE X M E b g) : ST X M E (.Compare a [.Gt] [b] pos) (bT (eOp (oI fun i j => ltI j i) f g)) := st_cmp op_gt ok_gt ha hb (nomark _)
theorem st_inS {a b : Expr} {pos : Pos} {f g : EF} (ha : SE X M E a f) (hb : SE X M E b g) (hm : behindInMarks .In b = false := by rfl) : ST X M E (.Compare a [.In] [b] pos) (bT (eOp oInS f g)) := st_cmp op_in_sign ok_inS ha hb hm
theorem st_ninS {a b : Expr} {pos : Pos} {f g : EF} (ha : SE X M E a f) (hb : SE X M E b g) (hm : behindInMarks .NotIn b = false := by rfl) : ST X M E (.Compare a [.NotIn] [b] pos) (bT (eOp oNinS f g)) := st_cmp op_notIn_sign ok_ninS ha hb hm
theorem st_inL {a b : Expr} {pos : Pos} {f g : EF} (ha : SE X M E a f) (hb : SE X M E b g) (hm : behindInMarks .In b = false := by rfl) : ST X M E (.Compare a [.In] [b] pos) (bT (eOp (oInL false) f g)) := st_cmp op_in_seq ok_inL ha hb hm
theorem st_ninL {a b : Expr} {pos : Pos} {f g : EF} (ha : SE X M E a f) (hb : SE X M E b g) (hm : behindInMarks .NotIn b = false := by rfl) : ST X M E (.Compare a [.NotIn] [b] pos) (bT (eOp (oInL true) f g)) := st_cmp op_notIn_seq ok_inL ha hb hm
theorem st_eqD {a b : Expr} {pos : Pos} {f g : EF} (cx : CtxE X E) (ha : SE X M E a f) (hb : SE X M E b g) : ST X M E (.Compare a [.Eq] [b] pos) (bT (eOp (oEqD false) f g)) := st_cmp (op_eqD (by have := cx.hu; omega)) ok_eqD ha hb (nomark _)
theorem st_neD {a b : Expr} {pos : Pos} {f g : EF} (cx : CtxE X E) (ha : SE X M E a f) (hb : SE X M E b g) : ST X M E (.Compare a [.NotEq] [b] pos) (bT (eOp (oEqD true) f g)) := st_cmp (op_neD (by have := cx.hu; omega)) ok_neD ha hb (nomark _)
theorem se_app {o e : Expr} {apos cpos : Pos} {f : EF} {g : AF} (ha : SE X M E o f) (hb : SA X M E [e] g)
    (hbase : attributeBase o "append" X.env (eval o X.env) = eval o X.env := by rfl)
    (hfew : ((backTo cpos (starEach [e] X.env)).all (fun x => !x.1) && (backToKw cpos (keywordEach [] X.env)).all (fun x => x.1.isSome) && decide (([e] : List Expr).length + ([] : List Keyword).length + (if ([] : List Keyword).isEmpty then 0 else 1) < 30)) = true := by rfl)
    (hline : (apos.endLine == cpos.line) = true := by rfl) (hs : starEach [e] X.env = (false, eval e X.env) :: starEach [] X.env := by rfl) (hplain : (backTo cpos (starEach [] X.env)).any (·.1) = false := by rfl) :
    SE X M E (.Call (.Attribute o "append" apos) [e] [] cpos) (eBM oAppend f g) := se_append ha hb fun po pa => pe_bm PySem.F.plainAttrs_list PySem.F.slot_list_append PySem.F.type_list_append mt_append po pa hbase hfew hline hs hplain
theorem se_idx {o e : Expr} {apos cpos : Pos} {f : EF} {g : AF} (ha : SE X M E o f) (hb : SA X M E [e] g)
    (hbase : attributeBase o "index" X.env (eval o X.env) = eval o X.env := by rfl)
    (hfew : ((backTo cpos (starEach [e] X.env)).all (fun x => !x.1) && (backToKw cpos (keywordEach [] X.env)).all (fun x => x.1.isSome) && decide (([e] : List Expr).length + ([] : List Keyword).length + (if ([] : List Keyword).isEmpty then 0 else 1) < 30)) = true := by rfl)
    (hline : (apos.endLine == cpos.line) = true := by rfl) (hs : starEach [e] X.env = (false, eval e X.env) :: starEach [] X.env := by rfl) (hplain : (backTo cpos (starEach [] X.env)).any (·.1) = false := by rfl) :
    SE X M E (.Call (.Attribute o "index" apos) [e] [] cpos) (eBM oIndex f g) := se_index (pl := True) ha hb fun po pa => pe_bm PySem.F.plainAttrs_list PySem.F.slot_list_index PySem.F.type_list_index mt_index po pa hbase hfew hline hs hplain
theorem se_dget {o e z : Expr} {apos cpos : Pos} {f g k : EF} (cx : CtxE X E) (ha : SE X M E o f) (hb : SE X M E e g) (hc : SE X M E z k) (m : M2 X o "get" apos e z cpos := by exact ⟨rfl, rfl, rfl, rfl⟩) : SE X M E (.Call (.Attribute o "get" apos) [e, z] [] cpos) (eGet2 f g k) :=
  se_get2 ha hb hc fun po pe pz => pe_dget2 (by have := cx.hu; omega) po pe pz m
theorem se_cnt {apos pos : Pos} {a e : Expr} {f g : EF} (ha : SE X M E a f) (hb : SE X M E e g) (hs : starEach [e] X.env = [(false, eval e X.env)] := by rfl) (hbase : attributeBase a "count" X.env (eval a X.env) = eval a X.env := by rfl) (hline : (apos.endLine == pos.line) = true := by rfl) :
    SE X M E (.Call (.Attribute a "count" apos) [e] [] pos) (eM1 oCount f g) := se_m1 PySem.F.slot_str_count PySem.F.type_str_count mt_count ok_count ha hb hs hbase hline
theorem se_spl {apos pos : Pos} {a e : Expr} {f g : EF} (ha : SE X M E a f) (hb : SE X M E e g) (hs : starEach [e] X.env = [(false, eval e X.env)] := by rfl) (hbase : attributeBase a "split" X.env (eval a X.env) = eval a X.env := by rfl) (hline : (apos.endLine == pos.line) = true := by rfl) :
    SE X M E (.Call (.Attribute a "split" apos) [e] [] pos) (eM1 oSplit f g) := se_m1 PySem.F.slot_str_split PySem.F.type_str_split mt_split ok_split ha hb hs hbase hline
theorem se_jn {apos pos : Pos} {a e : Expr} {f g : EF} (ha : SE X M E a f) (hb : SE X M E e g) (hs : starEach [e] X.env = [(false, eval e X.env)] := by rfl) (hbase : attributeBase a "join" X.env (eval a X.env) = eval a X.env := by rfl) (hline : (apos.endLine == pos.line) = true := by rfl) :
    SE X M E (.Call (.Attribute a "join" apos) [e] [] pos) (eM1 oJoin f g) := se_m1 PySem.F.slot_str_join PySem.F.type_str_join mt_join ok_join ha hb hs hbase hline
theorem se_jns {apos pos : Pos} {a e : Expr} {f g : EF} (cx : CtxE X E) (ha : SE X M E a f) (hb : SE X M E e g) (hs : starEach [e] X.env = [(false, eval e X.env)] := by rfl) (hbase : attributeBase a "join" X.env (eval a X.env) = eval a X.env := by rfl) (hline : (apos.endLine == pos.line) = true := by rfl) :
    SE X M E (.Call (.Attribute a "join" apos) [e] [] pos) (eM1 oJoinS f g) := se_m1 PySem.F.slot_str_join PySem.F.type_str_join (mt_joinS cx.calm) ok_joinS ha hb hs hbase hline
def eNeg (f : EF) : EF := fun en S => (f en S).bind fun x S1 => match x with
  | .int i => .ok (.int (-i)) S1
  | _ => .bad
theorem se_neg {a : Expr} {pos : Pos} {f : EF} (ha : SE X M E a f) : SE X M E (.UnaryOp .USub a pos) (eNeg f) := by
  obtain ⟨ta, pa, qa⟩ := ha
  refine ⟨_, pe_un un_neg pa, fun r S en σ H Q he hs h => ?_⟩
  refine qa r S en σ H _ he hs (Post.bind h fun x S1 r1 H1 u _ g1 q1 s1 h1 => ?_)
  cases x with
  | int i => exact ⟨i, rd_int.mp q1, Post.here h1 s1 (rd_int.mpr rfl)⟩
  | _ => exact h1.elim
end
end Kv

/-! The lambda that _law_told calls. -/
namespace Kv
open PySem PySem.Spec PyProof.Rows L2 GenW LamX
theorem takes_len {X : Cx} {W : WX} (t : Takes X W) : Takes X (fun c d σ H => σ.length = X.N.length → W c d σ H) := fun u s' ⟨a, B, sI, pins, σ, H, cls, d, e, I, nb, up, sky, na, os, ag, w⟩ =>
  t u s' ⟨a, B, sI, pins, σ, H, cls, d, e, I, nb, up, sky, na, os, ag, w I.len⟩
/-- told: what comes of an own error of the two kinds -/
def TT3 (cI cN : Addr) (tI tN : Str) : (XK → Hp → VK → Prop) → Hp → VK → Prop := fun tl H Q =>
  tl (fun cls d H' => (cls = .ref cI ∧ d = none ∧ Q (.str tI) H') ∨ (cls = .ref cN ∧ d = none ∧ Q (.str tN) H')) H Q
theorem told_gives3 {X : Cx} {x a en q cs cx : Str} {tI tN : Str} {sg : Scope} {g cS cI cN : Addr} {cdg : Value} {j j2 : Nat} {p1 p2 p3 p4 p5 p6 p7 p8 p9 p10 p11 p12 p13 p14 : Pos} (hge : sg.names.lookup cs = some .globalImplicit) (hme : X.mg cs = some (.ref cS)) (hde : (cs == ("__debug__" : Str)) = false)
    (hk : sg.kind = .function) (hN : [a, en].Nodup) (hln : sg.names.lookup en = some .local) (hgi : sg.names.lookup ("isinstance" : Str) = some .globalImplicit) (hmi : X.mg "isinstance" = none) (hgx : sg.names.lookup cx = some .globalImplicit) (hmx : X.mg cx = some (.ref cI)) (hdx : (cx == ("__debug__" : Str)) = false) (hdn : (en == ("__debug__" : Str)) = false) (hcn : (en == ("__classdict__" : Str)) = false)
    (CI : ExcC X.K cI) (CN : ExcC X.K cN) (kI : PySem.W.kitOne X.K (.ref cI) (.ref cI) = some true) (kN : PySem.W.kitOne X.K (.ref cN) (.ref cI) = some false) (eI : PySem.W.exmOne X.K (.ref cI) (.ref cS) = some true) (eN : PySem.W.exmOne X.K (.ref cN) (.ref cS) = some true) :
    GivesTo X [a, en] x sg g cdg [.Try [.Return (some (.Call (.Name a p1) [] [] p2)) p3] [.ExceptHandler (some (.Name cs p4)) (some en) [.Return (some (.IfExp (.Call (.Name "isinstance" p5) [.Name en p6, .Name cx p7] [] p8) (.Constant (.str tI) j p9) (.Constant (.str tN) j2 p10) p11)) p12] p13] [] [] p14] a q (TT3 cI cN tI tN) := by
  intro f c' s H Q tl act hc h
  have gl : ∀ {y : Str} {Y : Cx}, Y.env = envOfC x sg s.heap.objs.size g cdg → sg.names.lookup y = some .globalImplicit → Gl Y y := fun {y Y} e hy => by
    unfold Gl
    rw [e]
    show (envOfC x sg s.heap.objs.size g cdg).kindOf y = _
    unfold Env.kindOf
    first
      | exact hy
      | (show (if sg.kind = ScopeKind.function then sg.names.lookup y else _) = _; rw [if_pos hk]; exact hy)
  have lc : (envOfC x sg s.heap.objs.size g cdg).kindOf en = some .local := by
    unfold Env.kindOf
    first
      | exact hln
      | (show (if sg.kind = ScopeKind.function then sg.names.lookup en else _) = _; rw [if_pos hk]; exact hln)
  have suite : ∀ (D : Addr) (b : Bool) (txt : Str) (av : Addr) (oe : Obj) (pn : List (Addr × Obj)), ExcC X.K D → PySem.W.kitOne X.K (.ref D) (.ref cI) = some b → txt = (if b = true then tI else tN) → Zc (.ref D) none oe → (∃ vs, oe.data = .fields vs) →
      PSs ((cxOf C8.CX0 X.prog X.w X.K X.mg X.base [a, en] x sg g cdg X.A X.stack s H C8.E0).nox.suite av ((av, oe) :: pn)) [.Return (some (.IfExp (.Call (.Name "isinstance" p5) [.Name en p6, .Name cx p7] [] p8) (.Constant (.str tI) j p9) (.Constant (.str tN) j2 p10) p11)) p12]
        (fun DD σ H => σ[1]? = some (some (.ref av)) ∧ DD.rt (.str txt) H) := fun D b txt av oe pn C hk2 ht hz hf => by
    refine ⟨fun pins s' σ H' DD I ⟨h1, h2⟩ => ?_⟩
    refine (pss_one (ps_ret (pe_ifExp (pt_val (pe_callB (call_isE (X := (cxOf C8.CX0 X.prog X.w X.K X.mg X.base [a, en] x sg g cdg X.A X.stack s H C8.E0).nox) (a := av) (pn := pn) C hz hf) (gl rfl hgi) hmi (by decide +kernel) (pa_cons (pe_var (i := 1) rfl (Or.inl hln) hdn hcn) (pa_cons (pe_glob (gl rfl hgx) hmx (show RelV (.ref cI) (.ref cI) from rfl) hdx) pa_nil)))) pe_str pe_str))).run pins s' σ H' DD I ?_
    refine ⟨_, h1, .ref cI, .ref cI, b, rfl, fun u ru => ru, hk2, b, rfl, ?_⟩
    rw [ht] at h2
    cases b with
    | true => rw [if_pos rfl] at h2 ⊢; exact h2
    | false => rw [if_neg Bool.false_ne_true] at h2 ⊢; exact h2
  refine ⟨_, pss_one (ps_try_as (X := (cxOf C8.CX0 X.prog X.w X.K X.mg X.base [a, en] x sg g cdg X.A X.stack s H C8.E0).nox) (c := .ref cS) (i := 1)
      (tb := fun W D σ H => ∃ Ech : XK, (∀ cls d σ' H', Ech cls d H' → σ'.length = 2 → W cls d σ' H') ∧ σ[0]? = some (some (.ref f)) ∧ H c' = some (CodeO c' q) ∧ tl Ech H D.rt)
      (ts := fun av cls d DD σ H => σ[1]? = some (some (.ref av)) ∧ ((cls = .ref cI ∧ d = none ∧ DD.rt (.str tI) H) ∨ (cls = .ref cN ∧ d = none ∧ DD.rt (.str tN) H)))
      rfl rfl hN rfl lc ⟨gl rfl hge, hde, .inl hme⟩ L2.takes0 (fun W pn xe tk _ => ?_) (fun av oe cls d pn hz hf => ?_)), ?_⟩
  · refine ⟨fun pins s' σ H' D I h' => ?_⟩
    obtain ⟨Ech, hW, h1, h2, h3⟩ := h'
    have hp := act _ pn xe Ech p1 p2 (takes_len tk) hW
    have hq := pss_one (ps_ret (pos := p3) hp)
    exact hq.run pins s' σ H' D I ⟨h1, h2, h3⟩
  · refine ⟨fun pins s' σ H' DD I ⟨h1, h2⟩ => ?_⟩
    rcases h2 with ⟨e1, e2, h2⟩ | ⟨e1, e2, h2⟩
    · subst e1 e2
      exact (suite cI true tI av oe pn CI kI rfl hz hf).run pins s' σ H' DD I ⟨h1, h2⟩
    · subst e1 e2
      exact (suite cN false tN av oe pn CN kN rfl hz hf).run pins s' σ H' DD I ⟨h1, h2⟩
  · refine ⟨_, fun cls d σ' H' hE hl => ?_, rfl, hc, h⟩
    have at1 : ∀ av : Addr, (σ'.set 1 (some (V.ref av)))[1]? = some (some (V.ref av)) := fun av => List.getElem?_set_self (by omega)
    rcases hE with ⟨e1, e2, hE⟩ | ⟨e1, e2, hE⟩
    · subst e1 e2
      exact ⟨true, eI, fun _ av _ => ⟨at1 av, .inl ⟨rfl, rfl, hE⟩⟩, fun z => by cases z⟩
    · subst e1 e2
      exact ⟨true, eN, fun _ av _ => ⟨at1 av, .inr ⟨rfl, rfl, hE⟩⟩, fun z => by cases z⟩
/-! ### the lambda, made -/
section
variable {X : Cx} {pins : List (Addr × Obj)} {σ : L2.St} {H : Hp} {s : Shared}
theorem lam_mk {T : List (Addr × Str)} {c P : Addr} {params : Arguments} {body : Expr} {scope : Scope} {pos : Pos} {E : Value → Shared → Prop} {Q : Value → Shared → Prop} (I : Inv X pins σ H s) (TB : LamX.TabB X.base X.mg c P) (hcode : X.env.code = .ref c)
    (hm : (P, X.env.qual ++ "<lambda>") ∈ T) (hu : ∀ p ∈ T, p.1 = P → p.2 = X.env.qual ++ "<lambda>") (hT : Tabs T H) (hdef : defaultsOf params X.env = ([], [])) (hfree : ∀ y ∈ scope.names, y.2 = .free → ∃ c, X.env.cells.lookup y.1 = some c)
    (h : ∀ (f c' : Addr) (pm ctv : Value) (H1 : Hp) (s' : Shared), Inv X pins σ H1 s' → ExtN H H1 → (∀ b, b ≠ P → H b ≠ none → H1 b = H b) → Tabs T H1 →
      s'.heap.get? f = some (PySem.W.kla_obj "<lambda>" (X.env.qual ++ "<lambda>") params body scope (cloFrom X.env.cells scope.names []) pm c' ctv) → H1 f = none → f ∉ frs X.stack → H1 c' = some (CodeO c' (X.env.qual ++ "<lambda>")) → Q (.ref f) s') :
    wpAny (model X.prog X.w) X.A (eval (.Lambda params body scope pos) X.env) Q E s := by
  obtain ⟨ps, hP, ht, ha⟩ := hT _ hm
  have bP : s.heap.BuiltinsAt X.mg P := TB.bm.keeps I.bk
  have hP' : s.heap.get? P = some { cls := .none, data := .fields ps } := I.hok P _ hP
  have nofr : ∀ f, s.heap.objs.size ≤ f → f ∉ frs X.stack := fun f hf z => by
    rcases List.mem_cons.mp (I.stkSub _ z) with e | e
    · have h1 := I.lt
      rw [← e] at h1
      exact Nat.lt_irrefl _ (Nat.lt_of_lt_of_le h1 hf)
    · exact I.nofs hf e
  refine PySem.W.kla_eval hdef ?_
  cases hc : codeAmong pos ps.toList with
  | some cv =>
    obtain ⟨c', e, hco⟩ := ha pos cv hc
    subst e
    refine PySem.W.kla_makeFunctionHit (mg := X.mg) (c := c) (P := P) (ps := ps) (closure_ok hfree) I.ok.glob (I.mod.glob.keeps I.bk) hcode (TB.code.keeps I.bk) hP' ht hc bP fun ctv h' tk hx hsz => ?_
    refine h h'.objs.size c' ((X.mg "__name__").getD .none) ctv H _ (I.kept (t' := tk) fun b o e => Heap.get?_push_of_some _ (hx b o e)) (ExtN.refl H) (fun _ _ _ => rfl) hT (Heap.get?_push_size _ rfl) (I.hok.fresh hsz) (nofr _ hsz) hco
  | none =>
    refine PySem.W.kla_makeFunction (mg := X.mg) (c := c) (P := P) (ps := ps) (closure_ok hfree) I.ok.glob (I.mod.glob.keeps I.bk) hcode (TB.code.keeps I.bk) hP' ht hc TB.gP bP fun c' ctv h' tk hx hge hlt hrec htb => ?_
    obtain ⟨c2, oc, vs, t, e2, hoc, hd, hv⟩ := hrec
    cases e2
    have hsz : s.heap.objs.size ≤ h'.objs.size := Nat.le_trans hge (Nat.le_of_lt hlt)
    have nC : H c' = none := I.hok.fresh hge
    have I1 := inv_table (t' := tk) (more := #[rawInt pos.line, rawInt pos.col, .ref c']) (h' := h'.push (PySem.W.kla_obj "<lambda>" (X.env.qual ++ "<lambda>") params body scope (cloFrom X.env.cells scope.names []) ((X.mg "__name__").getD .none) c' ctv)) I hP
      (fun b o hb e => Heap.get?_push_of_some _ (hx b o hb e)) (Heap.get?_push_of_some _ htb) hge ⟨oc, vs, t, Heap.get?_push_of_some _ hoc, hd, hv⟩
    have hO : ∀ b, b ≠ P → H b ≠ none → upd (upd H P (.tbl (ps ++ #[rawInt pos.line, rawInt pos.col, .ref c']))) c' (CodeO c' (X.env.qual ++ "<lambda>")) b = H b := fun b hb n => by
      rw [upd_ne (fun z => n (by rw [z]; exact nC)), upd_ne hb]
    have hE : ExtN H (upd (upd H P (.tbl (ps ++ #[rawInt pos.line, rawInt pos.col, .ref c']))) c' (CodeO c' (X.env.qual ++ "<lambda>"))) := fun b o e n =>
      (hO b (fun z => n ps (Option.some.inj (e.symm.trans (by rw [z]; exact hP)))) (by rw [e]; simp)).trans e
    have eL : (ps ++ #[rawInt pos.line, rawInt pos.col, .ref c']).toList = ps.toList ++ [rawInt pos.line, rawInt pos.col, .ref c'] := by simp
    refine h h'.objs.size c' ((X.mg "__name__").getD .none) ctv _ _ I1 hE hO (fun p hp => ?_) (Heap.get?_push_size _ rfl) ?_ (nofr _ hsz) upd_same
    · by_cases hb : p.1 = P
      · rw [hu p hp hb, hb]
        refine ⟨_, by rw [upd_ne (ne_of_none hP nC), upd_same], by rw [eL]; exact PySem.TriplesOk_snoc _ _ _ _ ht, fun p' cv hcv => ?_⟩
        rw [eL] at hcv
        rcases among_app _ ht hcv with z | z
        · obtain ⟨c0, e1, e2⟩ := ha p' cv z
          exact ⟨c0, e1, hE _ _ e2 codeO_ne⟩
        · exact ⟨c', z, upd_same⟩
      · obtain ⟨ps', a1, a2, a3⟩ := hT p hp
        refine ⟨ps', by rw [hO _ hb (by rw [a1]; simp)]; exact a1, a2, fun p' cv hcv => ?_⟩
        obtain ⟨c0, e1, e2⟩ := a3 p' cv hcv
        exact ⟨c0, e1, hE _ _ e2 codeO_ne⟩
    · rw [upd_ne (Nat.ne_of_gt hlt), upd_ne (Nat.ne_of_gt (Nat.lt_of_lt_of_le (Heap.lt_size hP') hsz))]
      exact I.hok.fresh hsz
def tLamK (T : List (Addr × Str)) (P : Addr) (TT : (XK → Hp → VK → Prop) → Hp → VK → Prop) (t : XK → TE) : TE := fun σ H Q => Tabs T H ∧ ∀ H1, ExtN H H1 → (∀ b, b ≠ P → H b ≠ none → H1 b = H b) → Tabs T H1 → TT (fun E H' Q' => t E σ H' Q') H1 Q
theorem pe_lamK {T : List (Addr × Str)} {TT : (XK → Hp → VK → Prop) → Hp → VK → Prop} {x a : Str} {g c P : Addr} {k : Nat} {pg : Arguments} {bg : List Stmt} {sg : Scope} {dV kV doc pm cdv ct oc : Value} {an od : Option Addr} {osl : Array (Option Value)} {Ng : List Str}
    {params : Arguments} {body : Expr} {scope : Scope} {t : XK → TE} {p lpos pos : Pos} (hg : Gl X x) (hm : X.mg x = some (.ref g)) (hk : PySem.W.keepIn X.K (.ref g) = true)
    (lk : X.K.lookup g = some ⟨oc, od, .func (PySem.W.fnOf x x pg bg sg dV kV doc pm an cdv ct), osl⟩) (hcg : PySem.W.codeIn X.K cdv x = true) (hb : L2.Binds X.K (PySem.W.fnOf x x pg bg sg dV kV doc pm an cdv ct) [a] []) (Sg : FnScope Ng [a] sg) (hNg : Ng[0]? = some a) (hva : Vis sg a)
    (hG : GivesTo X Ng x sg g cdv bg a (X.env.qual ++ "<lambda>") TT)
    (TB : LamX.TabB X.base X.mg c P) (hcode : X.env.code = .ref c) (hmT : (P, X.env.qual ++ "<lambda>") ∈ T) (hu : ∀ p ∈ T, p.1 = P → p.2 = X.env.qual ++ "<lambda>") (hr : Room (k + 2) X.A) (L : LamS X.env.scope scope) (hdef : defaultsOf params X.env = ([], []))
    (hbind : ∀ (q : Str) (cl : List (Str × Addr)) (pm cv ctv : Value), bindArgs (PySem.W.kla_fn "<lambda>" q params body scope cl pm cv ctv) ⟨[], []⟩ = pure [])
    (hbody : ∀ (A : Around) (outer : List Env) (s : Shared) (H : Hp) (E : XK) (f c' : Addr), Room k (A.deeper (lamEnv X scope s.heap.objs.size f c')) → PE (lamCx X A outer s H E scope f c') body (t E))
    (hdb : (x == ("__debug__" : Str)) = false := by decide) (hd : (a == ("__debug__" : Str)) = false := by decide) (hcd : (a == ("__classdict__" : Str)) = false := by decide) :
    PE X (.Call (.Name x p) [.Lambda params body scope lpos] [] pos) (tLamK T P TT t) := by
  refine ⟨fun pins s σ H Q I ⟨hT, h⟩ => ?_⟩
  refine wpAny_Call_Name_kw (ld_glob I hg hm ?_ hdb)
  refine PySem.W.callWith_K (h₀ := X.base) I.ok.mod.kin hk ?_ (by rfl) (by rfl)
  show wpAny _ _ (spliced ((false, eval (.Lambda params body scope lpos) X.env) :: backTo pos (starEach [] X.env))) _ _ s
  refine Calls.spliced_cons (lam_mk I TB hcode hmT hu hT hdef (L.has I.ok) fun f c' pm' ctv H1 s' I1 eN eO T1 hf hfn hfr hco => ?_)
  refine Calls.spliced_nil ⟨I1.kIn, ?_⟩
  have rc : codeAny (model X.prog X.w) X.A (.call (.ref g) ⟨[.ref f], []⟩) (CR C8.CX0 X.stack X.prog X.w H1 s' Q C8.E0) s' := by
    refine run_ofS (N := Ng) (ps := [a]) (us := [.ref f]) (vs := [.ref f]) lk hcg Sg hr I1.env0 (hb s' [.ref f] I1.kIn rfl) (.cons rfl .nil) rfl fun hr' => ?_
    obtain ⟨t', ht', hq'⟩ := hG f c' s' H1 Q (fun E H' Q' => t E σ H' Q') (fun W pn xe E p1 p2 tk hW => pe_act (i := 0) I1 L hf hfn hfr (hbind _ _ _ _ _) tk hW hr' (fun A outer s H hr2 => hbody A outer s H E f c' hr2) hNg hva hd hcd) hco (h H1 eN eO T1)
    exact ⟨t', ht'.nox, hq'⟩
  refine wpAny_call (codeAny_mono rc fun r s2 hq => ?_)
  cases r with
  | error e => exact (show False from hq).elim
  | ok fl =>
    cases fl with
    | ret u => exact I1.after hq
    | next => exact False.elim hq
    | brk => exact False.elim hq
    | cont => exact False.elim hq
end
/-! ### shallow -/
def eTold (tI tN : List Nat) (h : EF) : EF := fun en S => match h en S with
  | .ok d S1 => .ok d S1
  | .exc 0 S1 => .ok (.str tI) S1
  | .exc 1 S1 => .ok (.str tN) S1
  | _ => .bad
section
variable {X : Cx} {M : Mo} {E : XK}
theorem tTold_ok {P : Addr} {cI cN : Addr} {tI tN : List Nat} {h : EF} (hI : M.xc 0 = cI) (hN : M.xc 1 = cN) (hPt : P ∉ M.tb) :
    ∀ r S en σ H Q, RE X.K r H en σ → RS X.K M r S H → Post (RD X.K) X.K M r H Q E (eTold tI tN h en S) → tLamK M.lt P (TT3 cI cN ⟨tI.toArray⟩ ⟨tN.toArray⟩) (fun E' => canT X.K M E' h) σ H Q := by
  intro r S en σ H Q he hs hp
  refine ⟨hs.lam, fun H1 eN eO T1 => ?_⟩
  have l : Leaves M H H1 := ⟨fun a u e n => eN a u e n, fun P' hP' t => by
    obtain ⟨ps, e, z⟩ := t
    exact ⟨ps, by rw [eO P' (fun q => hPt (q ▸ hP')) (by rw [e]; simp)]; exact e, z⟩, fun _ => T1⟩
  refine ⟨r, S, en, he.mono l.grow, hs.leaves l, ?_⟩
  unfold eTold at hp
  cases e : h en S with
  | bad => rw [e] at hp; exact hp.elim
  | ok d S1 => rw [e] at hp; exact Post.grow (x := .ok d S1) hp l.grow
  | exc c S1 =>
    rw [e] at hp
    match c, hp with
    | 0, hp => exact fun r' H' g hs' => .inl ⟨by rw [hI], rfl, hp r' H' _ (l.grow.trans g) (rd_str.mpr rfl) hs'⟩
    | 1, hp => exact fun r' H' g hs' => .inr ⟨by rw [hN], rfl, hp r' H' _ (l.grow.trans g) (rd_str.mpr rfl) hs'⟩
    | n + 2, hp => exact hp.elim
end
end Kv

/-! The law's own constructs: a token is out, replace, told, arithmetic, items of lists set. -/
namespace Kv
open PySem PySem.Spec PyProof.Rows L2 GenW
section
variable {X : Cx} {M : Mo} {E : XK}
/-! ### one token is out -/
def PTT (X : Cx) (e : Expr) (t : TT) : Prop :=
  ∀ (pins : List (Addr × Obj)) (s : Shared) (σ : L2.St) (H : Hp) (Q : Bool → Hp → Prop), 1 ≤ s.toks → Inv X pins σ H s → t σ H Q → wpAny (model X.prog X.w) X.A (isTrue e X.env (eval e X.env)) (TP X pins σ Q) X.xe s
structure SEt (X : Cx) (M : Mo) (E : XK) (e : Expr) (f : EF) : Prop where
  ex : ∃ te, PET X e te ∧ ∀ r S en σ H Q, RE X.K r H en σ → RS X.K M r S H → Post (RD X.K) X.K M r H Q E (f en S) → te σ H Q
structure STt (X : Cx) (M : Mo) (E : XK) (e : Expr) (f : BF) : Prop where
  ex : ∃ te, PTT X e te ∧ ∀ r S en σ H Q, RE X.K r H en σ → RS X.K M r S H → Post RB X.K M r H Q E (f en S) → te σ H Q
structure SSt (X : Cx) (M : Mo) (E : XK) (st : Stmt) (f : SF) : Prop where
  ex : ∃ ts, PST X st ts ∧ ∀ r S en σ H Z, RE X.K r H en σ → RS X.K M r S H → PostS X.K M r H Z E (f en S) → ts Z σ H
structure SSst (X : Cx) (M : Mo) (E : XK) (st : List Stmt) (f : SF) : Prop where
  ex : ∃ ts, PSsT X st ts ∧ ∀ r S en σ H Z, RE X.K r H en σ → RS X.K M r S H → PostS X.K M r H Z E (f en S) → ts Z σ H
theorem SE.t {e : Expr} {f : EF} (h : SE X M E e f) : SEt X M E e f := let ⟨t, p, q⟩ := h.ex; ⟨t, CwR.PET.of p, q⟩
theorem ST.t {e : Expr} {f : BF} (h : ST X M E e f) : STt X M E e f := let ⟨t, p, q⟩ := h.ex; ⟨t, fun pins s σ H Q _ I w => p.run pins s σ H Q I w, q⟩
theorem SS.t {e : Stmt} {f : SF} (h : SS X M E e f) : SSt X M E e f := let ⟨t, p, q⟩ := h.ex; ⟨t, PST.of p, q⟩
theorem SSs.t {e : List Stmt} {f : SF} (h : SSs X M E e f) : SSst X M E e f := let ⟨t, p, q⟩ := h.ex; ⟨t, PSsT.of p, q⟩
def eRep (y z : List Nat) (f : EF) : EF := fun en S => (f en S).bind fun x S1 => match x with
  | .str s => match Nat.ble (s.length + (s.length + 1) * z.length) lim with
    | true => .ok (.str (Txt.replace ⟨s.toArray⟩ ⟨y.toArray⟩ ⟨z.toArray⟩).cps.toList) S1
    | false => .bad
  | _ => .bad
theorem set_rep {o : Expr} {y z : Str} {j k : Nat} {c0 c1 apos pos : Pos} {f : EF} (ys zs : List Nat) (ho : SE X M E o f) (hy : y = ⟨ys.toArray⟩ := by rfl) (hz : z = ⟨zs.toArray⟩ := by rfl) (hyz : (y == z) = false := by decide)
    (hst : starEach [.Constant (.str y) j c0, .Constant (.str z) k c1] X.env = [(false, eval (.Constant (.str y) j c0) X.env), (false, eval (.Constant (.str z) k c1) X.env)] := by rfl)
    (hbase : attributeBase o "replace" X.env (eval o X.env) = eval o X.env := by rfl) (hline : (apos.endLine == pos.line) = true := by rfl) :
    SEt X M E (.Call (.Attribute o "replace" apos) [.Constant (.str y) j c0, .Constant (.str z) k c1] [] pos) (eRep ys zs f) := by
  obtain ⟨t, p, q⟩ := ho
  refine ⟨_, CwR.pet_replC p hyz hst hbase hline, fun r S en σ H Q he hs h => ?_⟩
  refine q r S en σ H _ he hs (Post.bind h fun x S1 r1 H1 v _ g1 q1 s1 h1 => ?_)
  cases x with
  | str s =>
    simp only at h1
    cases e : Nat.ble (s.length + (s.length + 1) * zs.length) lim with
    | false => rw [e] at h1; exact h1.elim
    | true =>
      rw [e] at h1
      refine ⟨_, rd_str.mp q1, ?_, Post.here h1 s1 (rd_str.mpr (by rw [hy, hz]))⟩
      rw [hz, str_len, str_len]
      exact Nat.le_trans (leB_le e) (by decide)
  | _ => exact h1.elim
theorem stt_ne {a b : Expr} {pos : Pos} {f g : EF} (ha : SEt X M E a f) (hb : SEt X M E b g) : STt X M E (.Compare a [.NotEq] [b] pos) (bT (eOp oNe f g)) := by
  obtain ⟨ta, pa, qa⟩ := ha
  obtain ⟨tb, pb, qb⟩ := hb
  refine ⟨tTest (tOp rNe ta tb), fun pins s σ H Q h0 I h => ?_, fun r S en σ H Q he hs h => ?_⟩
  · refine wpAny_isTrue_Compare1 (wpAny_mono (PySem.wpAny_toks (pa pins s σ H _ h0 I h)) (fun v s1 q => ?_) fun _ _ z => z.2) (nomark _)
    obtain ⟨hk, x, H1, I1, r1, q1⟩ := q
    refine thn (pb pins s1 σ H1 _ (Nat.le_trans h0 hk) I1 q1) fun u s2 ⟨y, H2, I2, r2, q2⟩ => ?_
    refine thn (op_ne pins s2 σ H2 x y v u _ I2 r1 r2 q2) fun c s3 ⟨z, H3, I3, r3, k, e, q3⟩ => ?_
    subst e
    cases r3
    exact wpAny_truthy_bool ⟨H3, I3, q3⟩
  · exact tB_ok (tOp_ok (X := X) ok_ne qa qb) r S en σ H Q he hs h
theorem sst_if {c : Expr} {a b : List Stmt} {k : BF} {f g : SF} {pos : Pos} (hc : STt X M E c k) (ha : SSst X M E a f) (hb : SSst X M E b g) : SSt X M E (.If c a b pos) (sIf k f g) := by
  obtain ⟨tc, pc, qc⟩ := hc
  obtain ⟨ta, pa, qa⟩ := ha
  obtain ⟨tb, pb, qb⟩ := hb
  refine ⟨tIfS tc ta tb, fun pins s σ H D h0 I h => ?_, fun r S en σ H Z he hs h => ?_⟩
  · refine wpAny_If (wpAny_mono (PySem.wpAny_toks (pc pins s σ H _ h0 I h)) (fun d s1 q => ?_) fun _ _ z => z.2)
    obtain ⟨hk, H1, I1, q1⟩ := q
    cases d with
    | true => exact pa pins s1 σ H1 D (Nat.le_trans h0 hk) I1 q1
    | false => exact pb pins s1 σ H1 D (Nat.le_trans h0 hk) I1 q1
  · refine qc r S en σ H _ he hs (PostS.out h fun x S1 r1 H1 u _ g1 q1 s1 h1 => ?_)
    have e : x = u := q1
    subst e
    cases x with
    | true => rw [if_pos rfl]; exact qa r1 S1 en σ H1 Z (he.mono g1) s1 h1
    | false => rw [if_neg Bool.false_ne_true]; exact qb r1 S1 en σ H1 Z (he.mono g1) s1 h1
theorem sst_set {i : Nat} {x : Str} {e : Expr} {f : EF} {pos pos' : Pos} (c : CtxOk X E) (he : SEt X M E e f) (hi : X.N[i]? = some x := by rfl) (hx : Loc X.env.scope x := by first | exact Or.inl rfl | exact Or.inr rfl) (hs : swapsWith e (some (.Name x pos')) pos.line X.env = pure false := by rfl) (hf : X.fn x = true ∨ X.env.scope.names.lookup x = some .local := by first | exact .inl rfl | exact .inr rfl) : SSt X M E (.Assign [.Name x pos'] e pos) (sAsg i f) := by
  obtain ⟨t, p, q⟩ := he
  refine ⟨tAsg t (gName i), fun pins s σ H D h0 I h => ?_, fun r S en σ H Z he hs h => ?_⟩
  · refine wpAny_Assign_Name (thn (p pins s σ H _ h0 I h) fun v s1 ⟨y, H1, I1, r1, q1⟩ => ?_) hs
    exact store_ok I1 c.nd hi hx r1 (fun s2 I2 => ⟨_, H1, I2, q1⟩) hf
  · exact q r S en σ H _ he hs (PostS.out h fun d S1 r1 H1 v _ g1 q1 s1 h1 => h1 r1 H1 _ (Grow.refl _ _) ((he.mono g1).set q1 i) s1)
theorem ssst_nil : SSst X M E [] sNx := sss_nil.t
theorem ssst_cons {st : Stmt} {rest : List Stmt} {f g : SF} (h1 : SSt X M E st f) (h2 : SSst X M E rest g) : SSst X M E (st :: rest) (sSeq f g) := by
  obtain ⟨t, p, q⟩ := h1
  obtain ⟨u, p', q'⟩ := h2
  refine ⟨_, psst_cons p p', fun r S en σ H Z he hs h => ?_⟩
  refine q r S en σ H _ he hs ?_
  unfold sSeq at h
  cases e : f en S with
  | nx e1 S1 =>
    rw [e] at h
    exact fun r' H' σ' g' he' hs' => q' r' S1 e1 σ' H' Z he' hs' (PostS.grow h g')
  | rt d S1 => rw [e] at h; exact h
  | bk e1 S1 => rw [e] at h; exact h
  | ct e1 S1 => rw [e] at h; exact h
  | exc c S1 => rw [e] at h; exact h
  | bad => rw [e] at h; exact h
/-- for, a token is out, in the body too -/
theorem pst_forT {tg iter : Expr} {body : List Stmt} {wi : TI} {g : TG} {tb : TS} {pos : Pos} (hp : PassesOwn (model X.prog X.w) X.A X.env X.xe) (hc : X.calm = true) (hi : PI X tg iter wi) (hg : PG X tg g) (hb : PSsT X body tb)
    (hs : ∀ x, foldedSetIterable iter X.env x = pure x) : PST X (.For tg iter body [] pos) (tFor wi g tb) := by
  intro pins s σ H D h0 I h
  have tk : ∀ {α : Type} {t : Sem α} {A : Around} {Q : α → Shared → Prop} {E : Value → Shared → Prop} {s : Shared}, 1 ≤ s.toks → wpAny (model X.prog X.w) A t Q E s → wpAny (model X.prog X.w) A t (fun a s' => 1 ≤ s'.toks ∧ Q a s') E s := fun h1 hw => wpAny_mono (PySem.wpAny_toks hw) (fun _ _ q => ⟨Nat.le_trans h1 q.1, q.2⟩) fun _ _ q => q.2
  refine wpAny_For (thn (tk h0 (hi.run pins s σ H _ I h)) fun v s1 h1 => thn (tk h1.1 h1.2) fun itv s2 h2 => ?_) hs
  obtain ⟨h0, it, fp, tn, J, H2, e, I2, T, st2, f2, W, ⟨m0, w0⟩, turn⟩ := h2
  subst e
  have stat : ∀ {H' : Hp}, (∀ b ∈ fp, H' b = none) → ∀ b ∈ fp, FpOk X pins H' b := fun hn b hb => ⟨hn b hb, (f2 b hb).2⟩
  refine codeAny_forLoop_any (fun n s' => 1 ≤ s'.toks ∧ ∃ i σ' H', Inv X pins σ' H' s' ∧ tn i s'.heap ∧ (∀ b ∈ fp, H' b = none) ∧ W i n σ' H') ?_ m0 ⟨h0, 0, σ, H2, I2, st2, fun b hb => (f2 b hb).1, w0⟩
  rintro n s3 ⟨h3, i, σ3, H3, I3, st3, fr3, w3⟩
  rcases turn i n σ3 H3 w3 with ⟨stop, qn⟩ | ⟨go, N, hN, step⟩
  · refine wpAny_passesOwn hp (thn (T.done X rfl rfl rfl hc i pins s3 σ3 H3 X.xe I3 (stat fr3) st3 stop) fun r s4 ⟨hr, I4⟩ => ?_)
    subst hr
    exact wpAny_execs_nil ⟨σ3, H3, I4, qn⟩
  · refine wpAny_passesOwn hp (thn (tk h3 (T.item X rfl rfl rfl hc i pins s3 σ3 H3 X.xe I3 (stat fr3) st3 go)) fun r s4 ⟨h4', u, hr, h4⟩ => ?_)
    subst hr
    refine wpAny_passesOwn hp (thn (tk h4' h4) fun _ s5 ⟨h5, x, H5, I5, r5, y5, st5, fr5⟩ => ?_)
    have I5' := I5.pinned (stat fr5) (T.obj _ _ st5)
    refine wpAny_passesOwn hp (thn (tk h5 (hg.run _ s5 σ3 H5 x u _ I5' r5 (step x H5 y5))) fun _ s6 ⟨h6, σ6, H6, I6, q6⟩ => ?_)
    refine wpAny_passesOwn hp (thn (tk h6 (hb _ s6 σ6 H6 _ h6 I6 q6)) fun f s7 ⟨h7, q7⟩ => ?_)
    have again : ∀ {σ7 : L2.St} {H7 : Hp}, Inv X (pins ++ pinsAt fp s5.heap) σ7 H7 s7 → N σ7 H7 → ∃ m, m < n ∧ 1 ≤ s7.toks ∧ ∃ i σ' H', Inv X pins σ' H' s7 ∧ tn i s7.heap ∧ (∀ b ∈ fp, H' b = none) ∧ W i m σ' H' := fun {σ7 H7} I7 n7 => by
      obtain ⟨m', hm, w7⟩ := hN σ7 H7 n7
      refine ⟨m', hm, h7, i + 1, σ7, H7, I7.unpinned, T.keep _ _ _ st5 fun b hb o e => (I7.pin (b, o) (List.mem_append_right _ (List.mem_append_right _ (mem_pinsAt hb e)))).1, fun b hb => ?_, w7⟩
      obtain ⟨o, e, d⟩ := T.obj _ _ st5 b hb
      exact (I7.pin (b, o) (List.mem_append_right _ (List.mem_append_right _ (mem_pinsAt hb e)))).2.1
    cases f with
    | next => obtain ⟨σ7, H7, I7, n7⟩ := q7; exact again I7 n7
    | cont => obtain ⟨σ7, H7, I7, n7⟩ := q7; exact again I7 n7
    | brk => obtain ⟨σ7, H7, I7, q7⟩ := q7; exact ⟨σ7, H7, I7.unpinned, q7⟩
    | ret v => obtain ⟨x7, σ7, H7, I7, r7, q7⟩ := q7; exact ⟨x7, σ7, H7, I7.unpinned, r7, q7⟩
theorem sst_for {vs : List Nat} {tg iter : Expr} {body : List Stmt} {f : EF} {g : GF} {b : SF} {pos : Pos} (n : Nat) (cx : CtxOk X E) (hi : SI X M E tg iter f) (hg : SG X M vs tg g) (hb : SSst X M E body b) (hs : ∀ x, foldedSetIterable iter X.env x = pure x := by intro _; rfl) : SSt X M E (.For tg iter body [] pos) (sFor n f g b) := by
  obtain ⟨ti, pi, qi⟩ := hi
  obtain ⟨tg', pg, qg⟩ := hg
  obtain ⟨tb, pb, qb⟩ := hb
  refine ⟨_, pst_forT cx.own cx.calm pi pg pb hs, fun r S en σ H Z he hs h => ?_⟩
  refine qi r S en σ H _ he hs (PostS.out h fun x S1 r1 H1 J _ g1 j1 s1 h1 => ?_)
  refine ⟨fun k m σ H => ∃ r S en, RE X.K r H en σ ∧ RS X.K M r S H ∧ ItOk X.K r H x J ∧ PostS X.K M r H Z E (forF x g b m k en S), ⟨n, r1, S1, en, he.mono g1, s1, j1, h1⟩, ?_⟩
  clear h h1 j1 s1 g1 he hs
  rintro k m σ H ⟨r, S, en, he, hs, hj, h⟩
  cases m with
  | zero => exact h.elim
  | succ m =>
    unfold forF at h
    cases e : itAt S k x with
    | none => rw [e] at h; exact h.elim
    | some o =>
      rw [e] at h
      cases o with
      | none => exact .inl ⟨itAt_stop e hs hj, h r H σ (Grow.refl _ _) he hs⟩
      | some d =>
        obtain ⟨go, hy⟩ := itAt_go e hs hj
        refine .inr ⟨go, _, fun σ' H' z => z, fun v H' y => ?_⟩
        obtain ⟨eH, hd⟩ := hy v H' y
        subst eH
        simp only at h
        cases e2 : g d en S with
        | none => rw [e2] at h; exact h.elim
        | some en1 =>
          rw [e2] at h
          simp only at h
          refine qg r S en en1 σ _ d v _ he hs hd e2 fun σ' he' _ => ?_
          refine qb r S en1 σ' _ _ he' hs ?_
          cases e3 : b en1 S with
          | nx e2 S2 => rw [e3] at h; exact fun r' H' σ' g' he' hs' => ⟨m, Nat.lt_succ_self m, r', S2, e2, he', hs', hj.mono g', PostS.grow h g'⟩
          | ct e2 S2 => rw [e3] at h; exact fun r' H' σ' g' he' hs' => ⟨m, Nat.lt_succ_self m, r', S2, e2, he', hs', hj.mono g', PostS.grow h g'⟩
          | bk e2 S2 => rw [e3] at h; exact h
          | rt d S2 => rw [e3] at h; exact h
          | exc x S2 => rw [e3] at h; exact h
          | bad => rw [e3] at h; exact h
/-- name = ['..', ..]: behind it a token is out -/
theorem sss_tok {i : Nat} {x c : Str} {es : List Expr} {j : Nat} {cp lp pos' pos : Pos} {cs : List Nat} {ga : AF} {g : SF} {rest : List Stmt} (cx : CtxOk X E) (ha : SA X M E es ga) (hc : c = ⟨cs.toArray⟩) (h2 : SSst X M E rest g) (hi : X.N[i]? = some x := by rfl) (hx : Loc X.env.scope x := by first | exact Or.inl rfl | exact Or.inr rfl)
    (hs : swapsWith (.List (.Constant (.str c) j cp :: es) lp) (some (.Name x pos')) pos.line X.env = pure false := by rfl) (hf : X.fn x = true ∨ X.env.scope.names.lookup x = some .local := by first | exact .inl rfl | exact .inr rfl)
    (hst : starEach (.Constant (.str c) j cp :: es) X.env = (false, eval (.Constant (.str c) j cp) X.env) :: starEach es X.env := by rfl) :
    SSs X M E (.Assign [.Name x pos'] (.List (.Constant (.str c) j cp :: es) lp) pos :: rest) (sSeq (sAsg i (eLst (aCons (eC (.str cs)) ga))) g) := by
  have hl := sa_cons (X := X) (M := M) (E := E) (se_str (j := j) (pos := cp) cs hc) ha hst
  have h1 := ss_set (pos := pos) (pos' := pos') cx (se_lst (pos := lp) hl) hi hx hs hf
  obtain ⟨⟨ta, pa, qa⟩, la⟩ := ha
  obtain ⟨u, pu, qu⟩ := h2
  refine ⟨tSeq (tAsg (tLst (tCons (tC (.str c)) ta)) (gName i)) u, ⟨fun pins s σ H D I h => ?_⟩, fun r S en σ H Z he hs' h => ?_⟩
  · have hz : ∀ (Q : Value → Shared → Prop), (∀ us s1 xs H1, 1 ≤ s1.toks → Inv X pins σ H1 s1 → Vals xs us → xs.length ≤ sizeLine → (∀ p, H1 p = none → gName i (.ref p) σ (upd H1 p (.lst xs)) (fun σ' H' => u D σ' H')) → Q (.ref s1.heap.objs.size) { s1 with heap := s1.heap.push { cls := .type "list", data := .seq us.toArray } }) →
        wpAny (model X.prog X.w) X.A (eval (.List (.Constant (.str c) j cp :: es) lp) X.env) Q X.xe s := fun Q hQ => by
      refine wpAny_List_spliced ?_
      rw [hst]
      show wpAny _ _ (spliced ((false, eval (.Constant (.str c) j cp) X.env) :: backTo lp (starEach es X.env))) _ _ s
      refine Calls.spliced_cons (Calls.Constant_str ?_)
      refine wpAny_mono (PySem.wpAny_toks (pa.run lp pins { s with toks := s.toks + 1 } σ H _ (I.tok _) h)) (fun us s1 q => ?_) fun _ _ z => z.2
      obtain ⟨hk, xs, H1, I1, r1, hz, q1⟩ := q
      have hk : s.toks + 1 ≤ s1.toks := hk
      have rv : Vals (V.str c :: xs) (Value.str c s.toks :: us) := .cons ⟨_, rfl⟩ r1
      exact ⟨by rw [← rv.length]; exact hz, hQ _ s1 _ H1 (by omega) I1 rv hz q1⟩
    refine wpAny_execs_cons (wpAny_Assign_Name (hz _ fun us s1 xs H1 h1 I1 rv hz2 q1 => ?_) hs)
    have hf1 : H1 s1.heap.objs.size = none := I1.hok.fresh (Nat.le_refl _)
    have I2 : Inv X pins σ (upd H1 s1.heap.objs.size (.lst xs)) { s1 with heap := s1.heap.push { cls := .type "list", data := .seq us.toArray } } := I1.laid (t' := s1.toks) (fun b u e => Heap.get?_push_of_some _ e) (Nat.le_refl _) ⟨hz2, us, 0, rv, Heap.get?_push_size _ rfl⟩
    refine wpAny_mono (PySem.wpAny_toks (store_ok (v := V.ref s1.heap.objs.size) (u := Value.ref s1.heap.objs.size) (Q := fun _ s2 => Inv X pins (σ.set i (some (V.ref s1.heap.objs.size))) (upd H1 s1.heap.objs.size (.lst xs)) s2) I2 cx.nd hi hx rfl (fun _ I3 => I3) hf)) (fun _ s2 q => ?_) fun _ _ z => z.2
    exact pu pins s2 _ _ D (Nat.le_trans h1 q.1) q.2 (q1 _ hf1)
  · -- the reading, from what the functions tell
    unfold sSeq sAsg eLst aCons eC at h
    refine qa r S en σ H _ he hs' ?_
    cases e1 : ga en S with
    | bad => simp only [Ans.bind, Ans.out, e1] at h; exact h.elim
    | exc c' S1 => simp only [Ans.bind, Ans.out, e1] at h; exact h
    | ok ds S1 =>
      simp only [Ans.bind, Ans.out, e1] at h
      intro r1 H1 vs g1 q1 s1
      cases e2 : Nat.ble (D.str cs :: ds).length lim with
      | false => rw [e2] at h; exact h.elim
      | true =>
        rw [e2] at h
        have q2 : RDs X.K r1 H1 (D.str cs :: ds) (V.str c :: vs) := rds_cons.mpr ⟨_, _, rfl, rd_str.mpr (by rw [hc]), q1⟩
        refine ⟨by rw [← q2.length]; exact lim_le e2, fun p hp => ?_⟩
        obtain ⟨s2, g2⟩ := s1.push (u := .lst (V.str c :: vs)) (o := .lst (D.str cs :: ds)) hp fun r' H' g e => ⟨_, e, RDs.mono g _ _ q2⟩
        have hx2 : (r1 ++ [p])[S1.length]? = some p := by
          rw [← s1.len, List.getElem?_append_right (Nat.le_refl _)]
          simp
        refine qu (r1 ++ [p]) _ _ _ _ Z (((he.mono g1).mono g2).set (rd_mut.mpr ⟨p, hx2, rfl⟩) i) s2 (PostS.grow h (g1.trans g2))
/-! ### arithmetic -/
def oMod : OF := fun x y S => match x, y with
  | .int i, .int j => match ltI 0 j with
    | true => .ok (.int (i % j)) S
    | false => .bad
  | _, _ => .bad
theorem ok_mod : OpOk X.K M E (rI (fun _ j => 0 < j) fun i j => .int (i % j)) oMod := by
  intro r S H x y u v Q hx hy hs h
  cases x <;> cases y <;> first | exact h.elim | skip
  rename_i i j
  simp only [oMod] at h
  cases e : ltI 0 j with
  | false => rw [e] at h; exact h.elim
  | true =>
    rw [e] at h
    exact ⟨i, j, rd_int.mp hx, rd_int.mp hy, (PySem.W.Z.ltB_iff 0 j).mp e, Post.here h hs (rd_int.mpr rfl)⟩
def oFdiv : OF := fun x y S => match x, y with
  | .int i, .int j => match ltI 0 j, ltI j 1073741824 with
    | true, true => .ok (.int (i / j)) S
    | _, _ => .bad
  | _, _ => .bad
theorem ok_fdiv : OpOk X.K M E (rI CDiv fun i j => .int (i / j)) oFdiv := by
  intro r S H x y u v Q hx hy hs h
  cases x <;> cases y <;> first | exact h.elim | skip
  rename_i i j
  simp only [oFdiv] at h
  cases e : ltI 0 j with
  | false => rw [e] at h; exact h.elim
  | true =>
    cases e2 : ltI j 1073741824 with
    | false => rw [e, e2] at h; exact h.elim
    | true =>
      rw [e, e2] at h
      exact ⟨i, j, rd_int.mp hx, rd_int.mp hy, ⟨(PySem.W.Z.ltB_iff 0 j).mp e, (PySem.W.Z.ltB_iff j 1073741824).mp e2⟩, Post.here h hs (rd_int.mpr rfl)⟩
def oMul : OF := fun x y S => match x, y with
  | .int i, .int j => match ltI (-(2 ^ 64)) j, ltI j (2 ^ 64) with
    | true, true => .ok (.int (i * j)) S
    | _, _ => .bad
  | _, _ => .bad
theorem ok_mul : OpOk X.K M E (rI CMul fun i j => .int (i * j)) oMul := by
  intro r S H x y u v Q hx hy hs h
  cases x <;> cases y <;> first | exact h.elim | skip
  rename_i i j
  simp only [oMul] at h
  cases e : ltI (-(2 ^ 64)) j with
  | false => rw [e] at h; exact h.elim
  | true =>
    cases e2 : ltI j (2 ^ 64) with
    | false => rw [e, e2] at h; exact h.elim
    | true =>
      rw [e, e2] at h
      exact ⟨i, j, rd_int.mp hx, rd_int.mp hy, .inr ⟨(PySem.W.Z.ltB_iff _ j).mp e, (PySem.W.Z.ltB_iff j _).mp e2⟩, Post.here h hs (rd_int.mpr rfl)⟩
/-- 10 ** 18 -/
def oPow : OF := fun x y S => match x, y with
  | .int i, .int j => match eqI i 10, eqI j 18 with
    | true, true => .ok (.int 1000000000000000000) S
    | _, _ => .bad
  | _, _ => .bad
theorem ok_pow : OpOk X.K M E (rI CPow fun i j => .int (i ^ j.toNat)) oPow := by
  intro r S H x y u v Q hx hy hs h
  cases x <;> cases y <;> first | exact h.elim | skip
  rename_i i j
  simp only [oPow] at h
  cases e : eqI i 10 with
  | false => rw [e] at h; exact h.elim
  | true =>
    cases e2 : eqI j 18 with
    | false => rw [e, e2] at h; exact h.elim
    | true =>
      rw [e, e2] at h
      have e3 := eqI_iff.mp e
      have e4 := eqI_iff.mp e2
      subst e3 e4
      exact ⟨10, 18, rd_int.mp hx, rd_int.mp hy, ⟨by decide, by decide, by decide⟩, Post.here h hs (rd_int.mpr (by decide))⟩
theorem se_mod {a b : Expr} {pos : Pos} {f g : EF} (ha : SE X M E a f) (hb : SE X M E b g) : SE X M E (.BinOp a .Mod b pos) (eOp oMod f g) := se_op op_mod ok_mod ha hb
theorem se_fdiv {a b : Expr} {pos : Pos} {f g : EF} (ha : SE X M E a f) (hb : SE X M E b g) : SE X M E (.BinOp a .FloorDiv b pos) (eOp oFdiv f g) := se_op op_fdiv ok_fdiv ha hb
theorem se_mul {a b : Expr} {pos : Pos} {f g : EF} (ha : SE X M E a f) (hb : SE X M E b g) : SE X M E (.BinOp a .Mult b pos) (eOp oMul f g) := se_op op_mul ok_mul ha hb
theorem se_pow {a b : Expr} {pos : Pos} {f g : EF} (ha : SE X M E a f) (hb : SE X M E b g) : SE X M E (.BinOp a .Pow b pos) (eOp oPow f g) := se_op op_pow ok_pow ha hb
theorem st_ge {a b : Expr} {pos : Pos} {f g : EF} (ha : SE X M E a f) (hb : SE X M E b g) : ST X M E (.Compare a [.GtE] [b] pos) (bT (eOp (oI fun i j => leI j i) f g)) := st_cmp op_ge ok_ge ha hb (nomark _)
def oIntI : CF := fun ds S => match ds with
  | [.int i] => .ok (.int i) S
  | _ => .bad
theorem ok_intI : CallOk X.K M E (fun xs H Q => (∃ i, xs = [.int i] ∧ Q (.int i) H) ∨ ∃ k, xs = [.bl k] ∧ Q (.int (if k then 1 else 0)) H) oIntI := by
  intro r S H ds vs Q q hs h
  unfold oIntI at h
  split at h
  · rename_i i
    obtain ⟨v, e, hx⟩ := rds1 q
    exact .inl ⟨i, by rw [e, rd_int.mp hx], Post.here h hs (rd_int.mpr rfl)⟩
  · exact h.elim
/-! ### l[i] = v -/
def sSub (o ix f : EF) : SF := fun en S => (f en S).out fun d S1 => (o en S1).out fun x S2 => (ix en S2).out fun y S3 => match x, y with
  | .ob i, .int k => match nth S3 i with
    | some (.lst ds) => match ixI ds.length k with
      | some j => .nx en (setN S3 i (.lst (setN ds j d)))
      | none => .bad
    | _ => .bad
  | _, _ => .bad
theorem rds_set {K : PySem.W.Frag} {r : List Addr} {H : Hp} {d : D} {v : V} (hd : RD K r H d v) : ∀ {ds : List D} {vs : List V} (j : Nat), RDs K r H ds vs → RDs K r H (ds.set j d) (vs.set j v)
  | [], vs, j, h => by rw [rds_nil.mp h]; exact rds_nil.mpr (by simp)
  | x :: ds, vs, 0, h => by
    obtain ⟨w, vr, e, h1, h2⟩ := rds_cons.mp h
    subst e
    exact rds_cons.mpr ⟨v, vr, rfl, hd, h2⟩
  | x :: ds, vs, j + 1, h => by
    obtain ⟨w, vr, e, h1, h2⟩ := rds_cons.mp h
    subst e
    exact rds_cons.mpr ⟨w, _, rfl, h1, rds_set hd j h2⟩
theorem ss_sub {o i e : Expr} {pos pos' : Pos} {fo fi f : EF} (he : SE X M E e f) (ho : SE X M E o fo) (hi : SE X M E i fi) (hs : swapsWithSole [.Subscript o i pos'] e pos.line X.env = pure false := by rfl) (hw : swappedStores [.Subscript o i pos'] e X.env = pure none := by rfl) (h1 : (assignEach [.Subscript o i pos'] X.env).map (·.2) = [assign (.Subscript o i pos') X.env] := by rfl)
    (ha : ∀ v, assign (.Subscript o i pos') X.env v = (do
      let ov ← holding [v] (eval o X.env)
      let iv ← holding [v, ov] (eval i X.env)
      standAt pos'
      holding [v, ov, iv] (setItem ov iv v)
      release [v, ov, iv] []) := by intro _; rfl) : SS X M E (.Assign [.Subscript o i pos'] e pos) (sSub fo fi f) := by
  obtain ⟨te, pe, qe⟩ := he
  obtain ⟨to, po, qo⟩ := ho
  obtain ⟨ti, pi, qi⟩ := hi
  refine ⟨_, ps_asg pe (pg_sub po pi set_list ha) hs hw h1, fun r S en σ H Z he hs h => ?_⟩
  refine qe r S en σ H _ he hs (PostS.out h fun d S1 r1 H1 v _ g1 q1 s1 h1 => ?_)
  refine qo r1 S1 en σ H1 _ (he.mono g1) s1 (PostS.out h1 fun x S2 r2 H2 u _ g2 q2 s2 h2 => ?_)
  refine qi r2 S2 en σ H2 _ ((he.mono g1).mono g2) s2 (PostS.out h2 fun y S3 r3 H3 w _ g3 q3 s3 h3 => ?_)
  split at h3
  · rename_i k n _ _
    obtain ⟨a, a1, e1⟩ := rd_mut.mp q2
    have a3 := g3.pre _ _ a1
    rw [nth_eq] at h3
    split at h3
    · rename_i ds e4
      obtain ⟨xs, b1, b2⟩ := s3.obj k a _ a3 e4
      cases e5 : ixI ds.length n with
      | none => rw [e5] at h3; exact h3.elim
      | some j =>
        rw [e5] at h3
        simp only at h3
        rw [setN_eq, setN_eq] at h3
        have hd := RD.mono (g2.trans g3) _ _ q1
        obtain ⟨s4, g4⟩ := s3.put (u := .lst (xs.set j v)) (o := .lst (ds.set j d)) a3 rfl fun H' g q => ⟨_, q, rds_set (RD.mono g _ _ hd) j (RDs.mono g _ _ b2)⟩
        exact ⟨a, xs, n, j, e1, rd_int.mp q3, b1, by rw [← b2.length]; exact ixI_ok e5, h3 _ _ _ g4 ((((he.mono g1).mono g2).mono g3).mono g4) s4⟩
    · exact h3.elim
  · exact h3.elim
end
end Kv

/-! told, as an expression. -/
namespace Kv
open PySem PySem.Spec PyProof.Rows L2 GenW
theorem sc_told : FnScope ["_law_work", "e"] ["_law_work"] (defScope (top 65)) := ⟨rfl, rfl, rfl, by decide +kernel, rfl, by decide +kernel, by decide +kernel⟩
/-- what told asks of the module -/
structure ToldF (K : PySem.W.Frag) (mg : Str → Option Value) (fT cT cS cI cN : Addr) (fdT : FuncData) : Prop where
  F : FunC K "_law_told" "_law_told" (top 65) fT (.ref cT) fdT
  g : mg "_law_told" = some (.ref fT)
  gS : mg "StageError" = some (.ref cS)
  gI : mg "InvalidText" = some (.ref cI)
  gi : mg "isinstance" = none
  CI : ExcC K cI
  CN : ExcC K cN
  kI : PySem.W.kitOne K (.ref cI) (.ref cI) = some true
  kN : PySem.W.kitOne K (.ref cN) (.ref cI) = some false
  eI : PySem.W.exmOne K (.ref cI) (.ref cS) = some true
  eN : PySem.W.exmOne K (.ref cN) (.ref cS) = some true
theorem ToldF.bn {K : PySem.W.Frag} {mg : Str → Option Value} {fT cT cS cI cN : Addr} {fdT : FuncData} (T : ToldF K mg fT cT cS cI cN fdT) : Binds K fdT ["_law_work"] [] := T.F.binds fun _ _ _ _ _ _ us hl => match us, hl with | [_], _ => rfl
section
variable {X : Cx} {M : Mo} {E : XK}
theorem CtxE.lamc {A : Around} {outer : List Env} {s : Shared} {H : Hp} {E' : XK} {scope : Scope} {f c' : Addr} {k : Nat} (hN : X.N.Nodup) (hr : Room k (A.deeper (LamX.lamEnv X scope s.heap.objs.size f c'))) : CtxE (LamX.lamCx X A outer s H E' scope f c') E' :=
  ⟨rfl, passes_call (takes_of rfl rfl rfl rfl) (fun _ _ _ _ h => h), (by
    have := hr.un
    show (A.deeper (LamX.lamEnv X scope s.heap.objs.size f c')).units + 65 < cLine
    omega), hN⟩
theorem se_told {fT cT cS cI cN cL tL : Addr} {fdT : FuncData} {params : Arguments} {body : Expr} {scope : Scope} {p lpos pos : Pos} {h : EF} {k : Nat} (T : ToldF X.K X.mg fT cT cS cI cN fdT) (hg : Gl X "_law_told") (TB : LamX.TabB X.base X.mg cL tL) (hcode : X.env.code = .ref cL)
    (hlt : M.lt = [(tL, X.env.qual ++ "<lambda>")]) (htb : tL ∉ M.tb) (hI : M.xc 0 = cI) (hN : M.xc 1 = cN) (hr : Room (k + 2) X.A) (L : LamX.LamS X.env.scope scope) (hdef : defaultsOf params X.env = ([], []))
    (hbind : ∀ (q : Str) (cl : List (Str × Addr)) (pm cv ctv : Value), bindArgs (PySem.W.kla_fn "<lambda>" q params body scope cl pm cv ctv) ⟨[], []⟩ = pure [])
    (hbody : ∀ (A : Around) (outer : List Env) (s : Shared) (H : Hp) (E : XK) (f c' : Addr), Room k (A.deeper (LamX.lamEnv X scope s.heap.objs.size f c')) → SE (LamX.lamCx X A outer s H E scope f c') M E body h) :
    SE X M E (.Call (.Name "_law_told" p) [.Lambda params body scope lpos] [] pos) (eTold [105, 110, 118, 97, 108, 105, 100] [111, 116, 104, 101, 114] h) := by
  have bn := T.bn
  obtain ⟨oc, od, kV, doc, pm, an, ct, osl, rfl, lk, hcd⟩ := T.F.ex
  have e1 : (Str.ofString "invalid") = ⟨[105, 110, 118, 97, 108, 105, 100].toArray⟩ := by decide +kernel
  have e2 : (Str.ofString "other") = ⟨[111, 116, 104, 101, 114].toArray⟩ := by decide +kernel
  refine ⟨_, pe_lamK (T := M.lt) (TT := TT3 cI cN (Str.ofString "invalid") (Str.ofString "other")) (t := fun E' => canT X.K M E' h) (P := tL) hg T.g T.F.kp lk hcd bn sc_told rfl (Or.inl rfl)
    (told_gives3 (cS := cS) rfl T.gS (by decide) rfl (by decide +kernel) rfl rfl T.gi rfl T.gI (by decide) (by decide) (by decide) T.CI T.CN T.kI T.kN T.eI T.eN) TB hcode (by rw [hlt]; exact .head _) (fun q hq e => by rw [hlt] at hq; rw [List.mem_singleton.mp hq]) hr L hdef hbind
    (fun A outer s H E f c' hr' => (hbody A outer s H E f c' hr').can), ?_⟩
  rw [e1, e2]
  exact tTold_ok hI hN htb
end
end Kv

/-! Printed by pr.py: the data of the module, what each def computes. -/
namespace Kv
open PySem PySem.Spec PyProof.Rows L2 GenW

def d_MOST_NUMBER : D := (.int 1000000)
def d_MOST_GIVEN : D := (.int 1000)
def d_MOST_MOVE : D := (.int 5)
def d_MOST_REST : D := (.int 6)
def d_MOST_LATES : D := (.int 4)
def d_MOST_FUNCTIONS : D := (.int 8)
def d_MOST_NODES : D := (.int 300)
def d_MOST_LETTERS : D := (.int 8)
def d_MOST_DEEP : D := (.int 30)
def d_LETTERS : D := (.str [97, 98, 99, 100, 101, 102, 103, 104, 105, 106, 107, 108, 109, 110, 111, 112, 113, 114, 115, 116, 117, 118, 119, 120, 121, 122])
def d_TAKEN : D := (.kl [.str [105, 102], .str [116, 104, 101, 110], .str [101, 108, 115, 101], .str [109, 111, 100], .str [97], .str [98], .str [99], .str [100], .str [101]])
def d_PAIRS : D := (.kl [.str [112, 108, 117, 115], .str [109, 105, 110, 117, 115], .str [116, 105, 109, 101, 115]])
def d_MOST_VALUE : D := (.int 1000000000000000000000000000000)
def d_MOST_EARLY : D := (.int 10000000)
def d_MOST_PLAIN : D := (.int 300)
def d_DIGITS_plains : D := (.str [48, 49, 50, 51, 52, 53, 54, 55, 56, 57])
def d_DIGITS_reading : D := (.str [48, 49, 50, 51, 52, 53, 54, 55, 56, 57])
def d_ALONE : D := (.str [40, 41, 124, 44, 61, 59, 60, 43, 45, 42])
def d_LATES_reading : D := (.kl [.str [97], .str [98], .str [99], .str [100]])
def d_LATES_texts : D := (.str [97, 98, 99, 100])
def kv_KINDS : List (List Nat × List Nat) := [([43], [112, 108, 117, 115]), ([45], [109, 105, 110, 117, 115]), ([42], [116, 105, 109, 101, 115])]
def kv_SIGNS : List (List Nat × List Nat) := [([112, 108, 117, 115], [43]), ([109, 105, 110, 117, 115], [45]), ([116, 105, 109, 101, 115], [42])]
structure Fs where
  is_in : CF
  is_name : CF
  is_tuple : CF
  is_move : CF
  is_test : CF
  is_expression : CF
  parts_of : CF
  is_all_early : CF
  nodes_of : CF
  calls_of : CF
  is_function : CF
  is_program : CF
  need_program : CF
  point_of : CF
  is_plain_expression : CF
  is_plain_function : CF
  is_plain : CF
  need_plain : CF
  row_end : CF
  words_of : CF
  m_init : CF
  m_look : CF
  m_next : CF
  m_need : CF
  m_number : CF
  m_move : CF
  m_some : CF
  m_call : CF
  m_test : CF
  m_inside : CF
  m_expression : CF
  m_function : CF
  m_letters : CF
  m_functions : CF
  read_program : CF
  read_plain : CF
  write_move : CF
  write_test : CF
  write_call : CF
  write_one : CF
  write_program : CF
  write_plain : CF
  _law_taken : CF
  _law_pick : CF
def b_is_in (F : Fs) : SF :=
    (sRet (eAnd (eIsi Ty.int (eVar 0)) (eAnd (eNot (eIsi Ty.bool (eVar 0))) (eChain (oI leI) (oI leI) (eVar 1) (eVar 0) (eVar 2)))))
def b_is_name (F : Fs) : SF :=
    (sSeq (sIf (bOr (bNot (bT (eIsi Ty.str (eVar 0)))) (bOr (bNot (bT (eChain (oI leI) (oI leI) (eC (.int 1)) (eCB oLen (aCons (eVar 0) aNil)) (eC d_MOST_LETTERS)))) (bT (eOp (oInL false) (eVar 0) (eC d_TAKEN))))) (sRet (eC (.bl false))) sNx)
    (sRet (eAll 10000 [1] (iS (eVar 0)) (gN 1) (eOp oInS (eVar 1) (eC d_LETTERS)))))
def b_is_tuple (F : Fs) : SF :=
    (sRet (eAnd (eIsi Ty.tuple (eVar 0)) (eAnd (eOp oEq (eCB oLen (aCons (eVar 0) aNil)) (eVar 1)) (eIsi Ty.str (eOp oIxT (eVar 0) (eC (.int 0)))))))
def b_is_move (F : Fs) : SF :=
    (sSeq (sIf (bNot (bT (eCB F.is_tuple (aCons (eVar 0) (aCons (eC (.int 2)) aNil))))) (sRet (eC (.bl false))) sNx)
    (sSeq (sIf (bT (eOp oEq (eOp oIxT (eVar 0) (eC (.int 0))) (eC (.str [103, 105, 118, 101])))) (sRet (eCB F.is_in (aCons (eOp oIxT (eVar 0) (eC (.int 1))) (aCons (eC (.int 0)) (aCons (eC d_MOST_GIVEN) aNil))))) sNx)
    (sRet (eAnd (eOp oEq (eOp oIxT (eVar 0) (eC (.int 0))) (eC (.str [109, 111, 118, 101]))) (eCB F.is_in (aCons (eOp oIxT (eVar 0) (eC (.int 1))) (aCons (eOp oSub (eC (.int 0)) (eC d_MOST_MOVE)) (aCons (eC d_MOST_MOVE) aNil))))))))
def b_is_test (F : Fs) : SF :=
    (sSeq (sIf (bT (eOp oEq (eVar 2) (eC (.int 0)))) (sRet (eC (.bl false))) sNx)
    (sSeq (sIf (bT (eCB F.is_tuple (aCons (eVar 0) (aCons (eC (.int 2)) aNil)))) (sRet (eAnd (eOp oEq (eOp oIxT (eVar 0) (eC (.int 0))) (eC (.str [98, 101, 108, 111, 119]))) (eCB F.is_in (aCons (eOp oIxT (eVar 0) (eC (.int 1))) (aCons (eC (.int 0)) (aCons (eC d_MOST_GIVEN) aNil)))))) sNx)
    (sSeq (sIf (bNot (bT (eCB F.is_tuple (aCons (eVar 0) (aCons (eC (.int 3)) aNil))))) (sRet (eC (.bl false))) sNx)
    (sSeq (sIf (bT (eOp oEq (eOp oIxT (eVar 0) (eC (.int 0))) (eC (.str [114, 101, 115, 116])))) (sRet (eAnd (eCB F.is_in (aCons (eOp oIxT (eVar 0) (eC (.int 1))) (aCons (eC (.int 2)) (aCons (eC d_MOST_REST) aNil)))) (eCB F.is_in (aCons (eOp oIxT (eVar 0) (eC (.int 2))) (aCons (eC (.int 0)) (aCons (eOp oSub (eOp oIxT (eVar 0) (eC (.int 1))) (eC (.int 1))) aNil)))))) sNx)
    (sSeq (sIf (bOr (bT (eOp oNe (eOp oIxT (eVar 0) (eC (.int 0))) (eC (.str [108, 101, 115, 115])))) (bNot (bT (eAll 10000 [3] (iT (eSlT 1 (eVar 0))) (gN 3) (eCB F.is_expression (aCons (eVar 3) (aCons (eVar 1) (aCons (eOp oSub (eVar 2) (eC (.int 1))) aNil)))))))) (sRet (eC (.bl false))) sNx)
    (sRet (eNot (eAll 10000 [3] (iT (eSlT 1 (eVar 0))) (gN 3) (eCB F.is_all_early (aCons (eVar 3) aNil))))))))))
def b_is_expression (F : Fs) : SF :=
    (sSeq (sIf (bT (eOp oEq (eVar 2) (eC (.int 0)))) (sRet (eC (.bl false))) sNx)
    (sSeq (sIf (bT (eCB F.is_tuple (aCons (eVar 0) (aCons (eC (.int 1)) aNil)))) (sRet (eOp oEq (eOp oIxT (eVar 0) (eC (.int 0))) (eC (.str [101, 97, 114, 108, 121])))) sNx)
    (sSeq (sIf (bT (eCB F.is_tuple (aCons (eVar 0) (aCons (eC (.int 2)) aNil)))) (sSeq (sIf (bT (eOp oEq (eOp oIxT (eVar 0) (eC (.int 0))) (eC (.str [110, 117, 109, 98, 101, 114])))) (sRet (eCB F.is_in (aCons (eOp oIxT (eVar 0) (eC (.int 1))) (aCons (eC (.int 0)) (aCons (eC d_MOST_NUMBER) aNil))))) sNx)
    (sRet (eAnd (eOp oEq (eOp oIxT (eVar 0) (eC (.int 0))) (eC (.str [108, 97, 116, 101]))) (eCB F.is_in (aCons (eOp oIxT (eVar 0) (eC (.int 1))) (aCons (eC (.int 0)) (aCons (eOp oSub (eVar 1) (eC (.int 1))) aNil))))))) sNx)
    (sSeq (sIf (bT (eCB F.is_tuple (aCons (eVar 0) (aCons (eC (.int 3)) aNil)))) (sRet (eAnd (eOp (oInL false) (eOp oIxT (eVar 0) (eC (.int 0))) (eC d_PAIRS)) (eAll 10000 [3] (iT (eSlT 1 (eVar 0))) (gN 3) (eCB F.is_expression (aCons (eVar 3) (aCons (eVar 1) (aCons (eOp oSub (eVar 2) (eC (.int 1))) aNil))))))) sNx)
    (sSeq (sIf (bNot (bT (eCB F.is_tuple (aCons (eVar 0) (aCons (eC (.int 4)) aNil))))) (sRet (eC (.bl false))) sNx)
    (sSeq (sIf (bT (eOp oEq (eOp oIxT (eVar 0) (eC (.int 0))) (eC (.str [105, 102])))) (sSeq (sIf (bNot (bT (eCB F.is_test (aCons (eOp oIxT (eVar 0) (eC (.int 1))) (aCons (eVar 1) (aCons (eOp oSub (eVar 2) (eC (.int 1))) aNil)))))) (sRet (eC (.bl false))) sNx)
    (sRet (eAll 10000 [3] (iT (eSlT 2 (eVar 0))) (gN 3) (eCB F.is_expression (aCons (eVar 3) (aCons (eVar 1) (aCons (eOp oSub (eVar 2) (eC (.int 1))) aNil))))))) sNx)
    (sSeq (sIf (bOr (bT (eOp oNe (eOp oIxT (eVar 0) (eC (.int 0))) (eC (.str [99, 97, 108, 108])))) (bOr (bNot (bT (eCB F.is_name (aCons (eOp oIxT (eVar 0) (eC (.int 1))) aNil)))) (bOr (bNot (bT (eCB F.is_move (aCons (eOp oIxT (eVar 0) (eC (.int 2))) aNil)))) (bNot (bT (eIsi Ty.tuple (eOp oIxT (eVar 0) (eC (.int 3))))))))) (sRet (eC (.bl false))) sNx)
    (sRet (eAnd (eOp (oI leI) (eCB oLen (aCons (eOp oIxT (eVar 0) (eC (.int 3))) aNil)) (eC d_MOST_LATES)) (eAll 10000 [3] (iT (eOp oIxT (eVar 0) (eC (.int 3)))) (gN 3) (eCB F.is_expression (aCons (eVar 3) (aCons (eVar 1) (aCons (eOp oSub (eVar 2) (eC (.int 1))) aNil))))))))))))))
def b_parts_of (F : Fs) : SF :=
    (sSeq (sIf (bT (eOp (oInL false) (eOp oIxT (eVar 0) (eC (.int 0))) (eLst (aCons (eC (.str [110, 117, 109, 98, 101, 114])) (aCons (eC (.str [101, 97, 114, 108, 121])) (aCons (eC (.str [108, 97, 116, 101])) (aCons (eC (.str [98, 101, 108, 111, 119])) (aCons (eC (.str [114, 101, 115, 116])) aNil)))))))) (sRet (eLst aNil)) sNx)
    (sSeq (sIf (bT (eOp oEq (eOp oIxT (eVar 0) (eC (.int 0))) (eC (.str [99, 97, 108, 108])))) (sRet (eCB oList (aCons (eOp oIxT (eVar 0) (eNeg (eC (.int 1)))) aNil))) sNx)
    (sRet (eCB oList (aCons (eSlT 1 (eVar 0)) aNil)))))
def b_is_all_early (F : Fs) : SF :=
    (sRet (eAnd (eOp (oInL true) (eOp oIxT (eVar 0) (eC (.int 0))) (eLst (aCons (eC (.str [108, 97, 116, 101])) (aCons (eC (.str [99, 97, 108, 108])) aNil)))) (eAll 10000 [1] (iL (eCB F.parts_of (aCons (eVar 0) aNil))) (gN 1) (eCB F.is_all_early (aCons (eVar 1) aNil)))))
def b_nodes_of (F : Fs) : SF :=
    (sRet (eOp oAdd (eC (.int 1)) (eSum 10000 [1] (iL (eCB F.parts_of (aCons (eVar 0) aNil))) (gN 1) (eCB F.nodes_of (aCons (eVar 1) aNil)))))
def b_calls_of (F : Fs) : SF :=
    (sSeq (sAsg 1 (eIf (bT (eOp oEq (eOp oIxT (eVar 0) (eC (.int 0))) (eC (.str [99, 97, 108, 108])))) (eLst (aCons (eVar 0) aNil)) (eLst aNil)))
    (sSeq (sFor 10000 (iL (eCB F.parts_of (aCons (eVar 0) aNil))) (gN 2) (sAsg 1 (eOp oCatL (eVar 1) (eCB F.calls_of (aCons (eVar 2) aNil)))))
    (sRet (eVar 1))))
def b_is_function (F : Fs) : SF :=
    (sSeq (sIf (bOr (bNot (bT (eIsi Ty.tuple (eVar 0)))) (bOr (bT (eOp oNe (eCB oLen (aCons (eVar 0) aNil)) (eC (.int 3)))) (bOr (bNot (bT (eCB F.is_name (aCons (eOp oIxT (eVar 0) (eC (.int 0))) aNil)))) (bNot (bT (eCB F.is_in (aCons (eOp oIxT (eVar 0) (eC (.int 1))) (aCons (eC (.int 0)) (aCons (eC d_MOST_LATES) aNil))))))))) (sRet (eC (.bl false))) sNx)
    (sRet (eCB F.is_expression (aCons (eOp oIxT (eVar 0) (eC (.int 2))) (aCons (eOp oIxT (eVar 0) (eC (.int 1))) (aCons (eC d_MOST_DEEP) aNil))))))
def b_is_program (F : Fs) : SF :=
    (sSeq (sIf (bOr (bNot (bT (eIsi Ty.tuple (eVar 0)))) (bNot (bT (eChain (oI leI) (oI leI) (eC (.int 1)) (eCB oLen (aCons (eVar 0) aNil)) (eC d_MOST_FUNCTIONS))))) (sRet (eC (.bl false))) sNx)
    (sSeq (sIf (bNot (bT (eAll 10000 [5] (iT (eVar 0)) (gN 5) (eCB F.is_function (aCons (eVar 5) aNil))))) (sRet (eC (.bl false))) sNx)
    (sSeq (sAsg 1 (eDc 10000 [2, 3, 4] (iT (eVar 0)) (gT (gsC (gN 2) (gsC (gN 3) (gsC (gN 4) gs0)))) (eVar 2) (eVar 3)))
    (sSeq (sIf (bOr (bT (eOp oNe (eCB oLenD (aCons (eVar 1) aNil)) (eCB oLen (aCons (eVar 0) aNil)))) (bT (eOp (oI fun i j => ltI j i) (eSum 10000 [2, 3, 4] (iT (eVar 0)) (gT (gsC (gN 2) (gsC (gN 3) (gsC (gN 4) gs0)))) (eCB F.nodes_of (aCons (eVar 4) aNil))) (eC d_MOST_NODES)))) (sRet (eC (.bl false))) sNx)
    (sSeq (sFor 10000 (iT (eVar 0)) (gT (gsC (gN 2) (gsC (gN 3) (gsC (gN 4) gs0)))) (sIf (bNot (bT (eAll 10000 [6] (iL (eCB F.calls_of (aCons (eVar 4) aNil))) (gN 6) (eOp oEq (eGet2 (eVar 1) (eOp oIxT (eVar 6) (eC (.int 1))) (eNeg (eC (.int 1)))) (eCB oLen (aCons (eOp oIxT (eVar 6) (eC (.int 3))) aNil)))))) (sRet (eC (.bl false))) sNx))
    (sRet (eC (.bl true))))))))
def b_need_program (F : Fs) : SF :=
    (sIf (bNot (bT (eCB F.is_program (aCons (eVar 0) aNil)))) sNever sNx)
def b_point_of (F : Fs) : SF :=
    (sSeq (sIf (bOr (bNot (bT (eIsi Ty.str (eVar 0)))) (bT (eOp oNe (eM1 oCount (eVar 0) (eC (.str [95]))) (eC (.int 1))))) (sRet (eC .non)) sNx)
    (sSeq (sAsgG (gL (gsC (gN 1) (gsC (gN 2) gs0))) (eM1 oSplit (eVar 0) (eC (.str [95]))))
    (sSeq (sIf (bOr (bNot (bT (eCB F.is_name (aCons (eVar 1) aNil)))) (bOr (bNot (bT (eChain (oI leI) (oI leI) (eC (.int 1)) (eCB oLen (aCons (eVar 2) aNil)) (eC (.int 8))))) (bNot (bT (eAll 10000 [3] (iS (eVar 2)) (gN 3) (eOp oInS (eVar 3) (eC d_DIGITS_plains))))))) (sRet (eC .non)) sNx)
    (sSeq (sIf (bOr (bT (eOp oNe (eCB oStrI (aCons (eCB oIntS (aCons (eVar 2) aNil)) aNil)) (eVar 2))) (bT (eOp (oI fun i j => ltI j i) (eCB oIntS (aCons (eVar 2) aNil)) (eC d_MOST_EARLY)))) (sRet (eC .non)) sNx)
    (sRet (eTup (aCons (eVar 1) (aCons (eCB oIntS (aCons (eVar 2) aNil)) aNil))))))))
def b_is_plain_expression (F : Fs) : SF :=
    (sSeq (sIf (bT (eOp oEq (eVar 2) (eC (.int 0)))) (sRet (eC (.bl false))) sNx)
    (sSeq (sIf (bT (eCB F.is_tuple (aCons (eVar 0) (aCons (eC (.int 2)) aNil)))) (sSeq (sIf (bT (eOp oEq (eOp oIxT (eVar 0) (eC (.int 0))) (eC (.str [110, 117, 109, 98, 101, 114])))) (sRet (eCB F.is_in (aCons (eOp oIxT (eVar 0) (eC (.int 1))) (aCons (eC (.int 0)) (aCons (eC d_MOST_VALUE) aNil))))) sNx)
    (sRet (eAnd (eOp oEq (eOp oIxT (eVar 0) (eC (.int 0))) (eC (.str [108, 97, 116, 101]))) (eCB F.is_in (aCons (eOp oIxT (eVar 0) (eC (.int 1))) (aCons (eC (.int 0)) (aCons (eOp oSub (eVar 1) (eC (.int 1))) aNil))))))) sNx)
    (sSeq (sIf (bT (eCB F.is_tuple (aCons (eVar 0) (aCons (eC (.int 3)) aNil)))) (sSeq (sIf (bT (eOp (oInL false) (eOp oIxT (eVar 0) (eC (.int 0))) (eC d_PAIRS))) (sRet (eAll 10000 [3] (iT (eSlT 1 (eVar 0))) (gN 3) (eCB F.is_plain_expression (aCons (eVar 3) (aCons (eVar 1) (aCons (eOp oSub (eVar 2) (eC (.int 1))) aNil)))))) sNx)
    (sSeq (sIf (bOr (bT (eOp oNe (eOp oIxT (eVar 0) (eC (.int 0))) (eC (.str [99, 97, 108, 108])))) (bOr (bT (eIsN (eCB F.point_of (aCons (eOp oIxT (eVar 0) (eC (.int 1))) aNil)))) (bNot (bT (eIsi Ty.tuple (eOp oIxT (eVar 0) (eC (.int 2)))))))) (sRet (eC (.bl false))) sNx)
    (sRet (eAnd (eOp (oI leI) (eCB oLen (aCons (eOp oIxT (eVar 0) (eC (.int 2))) aNil)) (eC d_MOST_LATES)) (eAll 10000 [3] (iT (eOp oIxT (eVar 0) (eC (.int 2)))) (gN 3) (eCB F.is_plain_expression (aCons (eVar 3) (aCons (eVar 1) (aCons (eOp oSub (eVar 2) (eC (.int 1))) aNil))))))))) sNx)
    (sSeq (sIf (bOr (bNot (bT (eCB F.is_tuple (aCons (eVar 0) (aCons (eC (.int 4)) aNil))))) (bOr (bT (eOp oNe (eOp oIxT (eVar 0) (eC (.int 0))) (eC (.str [105, 102])))) (bOr (bNot (bT (eCB F.is_tuple (aCons (eOp oIxT (eVar 0) (eC (.int 1))) (aCons (eC (.int 3)) aNil))))) (bT (eOp oNe (eOp oIxT (eOp oIxT (eVar 0) (eC (.int 1))) (eC (.int 0))) (eC (.str [108, 101, 115, 115]))))))) (sRet (eC (.bl false))) sNx)
    (sSeq (sIf (bOr (bT (eOp (oI ltI) (eVar 2) (eC (.int 3)))) (bNot (bT (eAll 10000 [3] (iT (eSlT 1 (eOp oIxT (eVar 0) (eC (.int 1))))) (gN 3) (eCB F.is_plain_expression (aCons (eVar 3) (aCons (eVar 1) (aCons (eOp oSub (eVar 2) (eC (.int 2))) aNil)))))))) (sRet (eC (.bl false))) sNx)
    (sRet (eAll 10000 [3] (iT (eSlT 2 (eVar 0))) (gN 3) (eCB F.is_plain_expression (aCons (eVar 3) (aCons (eVar 1) (aCons (eOp oSub (eVar 2) (eC (.int 1))) aNil)))))))))))
def b_is_plain_function (F : Fs) : SF :=
    (sSeq (sIf (bOr (bNot (bT (eIsi Ty.tuple (eVar 0)))) (bOr (bT (eOp oNe (eCB oLen (aCons (eVar 0) aNil)) (eC (.int 3)))) (bT (eIsN (eCB F.point_of (aCons (eOp oIxT (eVar 0) (eC (.int 0))) aNil)))))) (sRet (eC (.bl false))) sNx)
    (sRet (eAnd (eCB F.is_in (aCons (eOp oIxT (eVar 0) (eC (.int 1))) (aCons (eC (.int 0)) (aCons (eC d_MOST_LATES) aNil)))) (eCB F.is_plain_expression (aCons (eOp oIxT (eVar 0) (eC (.int 2))) (aCons (eOp oIxT (eVar 0) (eC (.int 1))) (aCons (eC d_MOST_DEEP) aNil)))))))
def b_is_plain (F : Fs) : SF :=
    (sSeq (sIf (bOr (bNot (bT (eIsi Ty.tuple (eVar 0)))) (bNot (bT (eChain (oI leI) (oI leI) (eC (.int 1)) (eCB oLen (aCons (eVar 0) aNil)) (eC d_MOST_PLAIN))))) (sRet (eC (.bl false))) sNx)
    (sSeq (sIf (bNot (bT (eAll 10000 [5] (iT (eVar 0)) (gN 5) (eCB F.is_plain_function (aCons (eVar 5) aNil))))) (sRet (eC (.bl false))) sNx)
    (sSeq (sAsg 1 (eDc 10000 [2, 3, 4] (iT (eVar 0)) (gT (gsC (gN 2) (gsC (gN 3) (gsC (gN 4) gs0)))) (eVar 2) (eVar 3)))
    (sSeq (sIf (bT (eOp oNe (eCB oLenD (aCons (eVar 1) aNil)) (eCB oLen (aCons (eVar 0) aNil)))) (sRet (eC (.bl false))) sNx)
    (sSeq (sFor 10000 (iT (eVar 0)) (gT (gsC (gN 2) (gsC (gN 3) (gsC (gN 4) gs0)))) (sIf (bNot (bT (eAll 10000 [6] (iL (eCB F.calls_of (aCons (eVar 4) aNil))) (gN 6) (eOp oEq (eGet2 (eVar 1) (eOp oIxT (eVar 6) (eC (.int 1))) (eNeg (eC (.int 1)))) (eCB oLen (aCons (eOp oIxT (eVar 6) (eC (.int 2))) aNil)))))) (sRet (eC (.bl false))) sNx))
    (sRet (eC (.bl true))))))))
def b_need_plain (F : Fs) : SF :=
    (sIf (bNot (bT (eCB F.is_plain (aCons (eVar 0) aNil)))) sNever sNx)
def b_row_end (F : Fs) : SF :=
    (sSeq (whileF (bAnd (bT (eOp (oI ltI) (eVar 1) (eCB oLen (aCons (eVar 0) aNil)))) (bT (eOp oInS (eOp oIxS (eVar 0) (eVar 1)) (eVar 2)))) (sAsg 1 (eOp oAdd (eVar 1) (eC (.int 1)))) 10000)
    (sRet (eVar 1)))
def b_words_of (F : Fs) : SF :=
    (sSeq (sPar 2 3 (aCons (eLst aNil) (aCons (eC (.int 0)) aNil)))
    (sSeq (whileF (bT (eOp (oI ltI) (eVar 3) (eCB oLen (aCons (eVar 0) aNil)))) (sSeq (sAsg 4 (eOp oAdd (eVar 3) (eC (.int 1))))
    (sSeq (sIf (bT (eOp oInS (eOp oIxS (eVar 0) (eVar 3)) (eC d_LETTERS))) (sSeq (sAsg 4 (eCB F.row_end (aCons (eVar 0) (aCons (eVar 3) (aCons (eC d_LETTERS) aNil)))))
    (sIf (bAnd (bT (eVar 1)) (bT (eOp oEq (eSlS (eVar 0) (nE (eVar 4)) (nE (eOp oAdd (eVar 4) (eC (.int 1))))) (eC (.str [95]))))) (sAsg 4 (eCB F.row_end (aCons (eVar 0) (aCons (eOp oAdd (eVar 4) (eC (.int 1))) (aCons (eC d_DIGITS_reading) aNil))))) sNx)) (sIf (bT (eOp oInS (eOp oIxS (eVar 0) (eVar 3)) (eC d_DIGITS_reading))) (sSeq (sAsg 4 (eCB F.row_end (aCons (eVar 0) (aCons (eVar 3) (aCons (eC d_DIGITS_reading) aNil)))))
    (sIf (bAnd (bT (eOp (oI fun i j => ltI j i) (eOp oSub (eVar 4) (eVar 3)) (eC (.int 1)))) (bT (eOp oEq (eOp oIxS (eVar 0) (eVar 3)) (eC (.str [48]))))) (sRaise 0) sNx)) (sIf (bAnd (bT (eOp oNinS (eOp oIxS (eVar 0) (eVar 3)) (eC d_ALONE))) (bT (eOp oNe (eOp oIxS (eVar 0) (eVar 3)) (eC (.str [32]))))) (sRaise 0) sNx)))
    (sSeq (sIf (bAnd (bT (eOp oInS (eOp oIxS (eVar 0) (eVar 3)) (eOp oCatS (eC d_LETTERS) (eC d_DIGITS_reading)))) (bT (eOp (oInL false) (eSlS (eVar 0) (nE (eVar 4)) (nE (eOp oAdd (eVar 4) (eC (.int 1))))) (eLst (aStar (eC d_LETTERS) (aStar (eC d_DIGITS_reading) (aCons (eC (.str [95])) aNil))))))) (sRaise 0) sNx)
    (sSeq (sIf (bT (eOp oNe (eOp oIxS (eVar 0) (eVar 3)) (eC (.str [32])))) (sDrop (eBM oAppend (eVar 2) (aCons (eSlS (eVar 0) (nE (eVar 3)) (nE (eVar 4))) aNil))) sNx)
    (sAsg 3 (eVar 4)))))) 10000)
    (sRet (eVar 2))))
def b_m_init (F : Fs) : SF :=
    (sSeq (sFldS 0 (eVar 0) (eVar 1))
    (sSeq (sFldS 1 (eVar 0) (eVar 2))
    (sFldS 2 (eVar 0) (eC (.int 0)))))
def b_m_look (F : Fs) : SF :=
    (sRet (eIf (bT (eOp (oI ltI) (eFld 2 (eVar 0)) (eCB oLen (aCons (eFld 0 (eVar 0)) aNil)))) (eOp oIxL (eFld 0 (eVar 0)) (eFld 2 (eVar 0))) (eC (.str []))))
def b_m_next (F : Fs) : SF :=
    (sSeq (sAsg 1 (eMeth F.m_look (eVar 0) aNil))
    (sSeq (sFldS 2 (eVar 0) (eOp oAdd (eFld 2 (eVar 0)) (eC (.int 1))))
    (sRet (eVar 1))))
def b_m_need (F : Fs) : SF :=
    (sIf (bT (eOp oNe (eMeth F.m_next (eVar 0) aNil) (eVar 1))) (sRaise 0) sNx)
def b_m_number (F : Fs) : SF :=
    (sSeq (sAsg 1 (eMeth F.m_next (eVar 0) aNil))
    (sSeq (sIf (bOr (bT (eOp oEq (eVar 1) (eC (.str [])))) (bOr (bT (eOp oNinS (eOp oIxS (eVar 1) (eC (.int 0))) (eC d_DIGITS_reading))) (bT (eOp (oI fun i j => ltI j i) (eCB oLen (aCons (eVar 1) aNil)) (eC (.int 40)))))) (sRaise 0) sNx)
    (sRet (eCB oIntS (aCons (eVar 1) aNil)))))
def b_m_move (F : Fs) : SF :=
    (sSeq (sIf (bT (eOp oNe (eMeth F.m_look (eVar 0) aNil) (eC (.str [101])))) (sRet (eTup (aCons (eC (.str [103, 105, 118, 101])) (aCons (eMeth F.m_number (eVar 0) aNil) aNil)))) sNx)
    (sSeq (sDrop (eMeth F.m_next (eVar 0) aNil))
    (sSeq (sIf (bT (eOp (oInL true) (eMeth F.m_look (eVar 0) aNil) (eLst (aCons (eC (.str [43])) (aCons (eC (.str [45])) aNil))))) (sRet (eTup (aCons (eC (.str [109, 111, 118, 101])) (aCons (eC (.int 0)) aNil)))) sNx)
    (sSeq (sPar 1 2 (aCons (eMeth F.m_next (eVar 0) aNil) (aCons (eMeth F.m_number (eVar 0) aNil) aNil)))
    (sSeq (sIf (bT (eOp oEq (eVar 2) (eC (.int 0)))) (sRaise 0) sNx)
    (sRet (eTup (aCons (eC (.str [109, 111, 118, 101])) (aCons (eIf (bT (eOp oEq (eVar 1) (eC (.str [43])))) (eVar 2) (eOp oSub (eC (.int 0)) (eVar 2))) aNil)))))))))
def b_m_some (F : Fs) : SF :=
    (sSeq (sAsg 2 (eLst aNil))
    (sSeq (whileF (bT (eOp oNe (eMeth F.m_look (eVar 0) aNil) (eC (.str [41])))) (sSeq (sIf (bTru (eVar 2)) (sDrop (eMeth F.m_need (eVar 0) (aCons (eC (.str [44])) aNil))) sNx)
    (sDrop (eBM oAppend (eVar 2) (aCons (eMeth F.m_expression (eVar 0) (aCons (eVar 1) aNil)) aNil)))) 10000)
    (sSeq (sDrop (eMeth F.m_next (eVar 0) aNil))
    (sRet (eCB oTuple (aCons (eVar 2) aNil))))))
def b_m_call (F : Fs) : SF :=
    (sSeq (sDrop (eMeth F.m_need (eVar 0) (aCons (eC (.str [40])) aNil)))
    (sSeq (sIf (bT (eFld 1 (eVar 0))) (sRet (eTup (aCons (eC (.str [99, 97, 108, 108])) (aCons (eVar 1) (aCons (eMeth F.m_some (eVar 0) (aCons (eOp oSub (eVar 2) (eC (.int 1))) aNil)) aNil))))) sNx)
    (sSeq (sAsg 3 (eMeth F.m_move (eVar 0) aNil))
    (sSeq (sIf (bT (eOp oEq (eMeth F.m_look (eVar 0) aNil) (eC (.str [41])))) (sSeq (sDrop (eMeth F.m_next (eVar 0) aNil))
    (sRet (eTup (aCons (eC (.str [99, 97, 108, 108])) (aCons (eVar 1) (aCons (eVar 3) (aCons (eTup aNil) aNil))))))) sNx)
    (sSeq (sDrop (eMeth F.m_need (eVar 0) (aCons (eC (.str [124])) aNil)))
    (sSeq (sIf (bT (eOp oEq (eMeth F.m_look (eVar 0) aNil) (eC (.str [41])))) (sRaise 0) sNx)
    (sRet (eTup (aCons (eC (.str [99, 97, 108, 108])) (aCons (eVar 1) (aCons (eVar 3) (aCons (eMeth F.m_some (eVar 0) (aCons (eOp oSub (eVar 2) (eC (.int 1))) aNil)) aNil))))))))))))
def b_m_test (F : Fs) : SF :=
    (sSeq (sAsg 2 (eMeth F.m_expression (eVar 0) (aCons (eCB oMax (aCons (eOp oSub (eVar 1) (eC (.int 1))) (aCons (eC (.int 1)) aNil))) aNil)))
    (sSeq (sIf (bAnd (bT (eOp (oEqD false) (eVar 2) (eTup (aCons (eC (.str [101, 97, 114, 108, 121])) aNil)))) (bT (eOp oEq (eMeth F.m_look (eVar 0) aNil) (eC (.str [109, 111, 100]))))) (sSeq (sDrop (eMeth F.m_next (eVar 0) aNil))
    (sSeq (sAsg 4 (eMeth F.m_number (eVar 0) aNil))
    (sSeq (sDrop (eMeth F.m_need (eVar 0) (aCons (eC (.str [61])) aNil)))
    (sRet (eTup (aCons (eC (.str [114, 101, 115, 116])) (aCons (eVar 4) (aCons (eMeth F.m_number (eVar 0) aNil) aNil)))))))) sNx)
    (sSeq (sDrop (eMeth F.m_need (eVar 0) (aCons (eC (.str [60])) aNil)))
    (sSeq (sAsg 3 (eMeth F.m_expression (eVar 0) (aCons (eCB oMax (aCons (eOp oSub (eVar 1) (eC (.int 1))) (aCons (eC (.int 1)) aNil))) aNil)))
    (sSeq (sIf (bAnd (bT (eOp (oEqD false) (eVar 2) (eTup (aCons (eC (.str [101, 97, 114, 108, 121])) aNil)))) (bT (eOp oEq (eOp oIxT (eVar 3) (eC (.int 0))) (eC (.str [110, 117, 109, 98, 101, 114]))))) (sRet (eTup (aCons (eC (.str [98, 101, 108, 111, 119])) (aCons (eOp oIxT (eVar 3) (eC (.int 1))) aNil)))) sNx)
    (sRet (eTup (aCons (eC (.str [108, 101, 115, 115])) (aCons (eVar 2) (aCons (eVar 3) aNil))))))))))
def b_m_inside (F : Fs) : SF :=
    (sSeq (sIf (bT (eOp oEq (eMeth F.m_look (eVar 0) aNil) (eC (.str [105, 102])))) (sSeq (sDrop (eMeth F.m_next (eVar 0) aNil))
    (sSeq (sAsg 2 (eMeth F.m_test (eVar 0) (aCons (eOp oSub (eVar 1) (eC (.int 1))) aNil)))
    (sSeq (sDrop (eMeth F.m_need (eVar 0) (aCons (eC (.str [116, 104, 101, 110])) aNil)))
    (sSeq (sAsg 3 (eMeth F.m_expression (eVar 0) (aCons (eOp oSub (eVar 1) (eC (.int 1))) aNil)))
    (sSeq (sDrop (eMeth F.m_need (eVar 0) (aCons (eC (.str [101, 108, 115, 101])) aNil)))
    (sAsg 4 (eTup (aCons (eC (.str [105, 102])) (aCons (eVar 2) (aCons (eVar 3) (aCons (eMeth F.m_expression (eVar 0) (aCons (eOp oSub (eVar 1) (eC (.int 1))) aNil)) aNil))))))))))) (sSeq (sAsg 3 (eMeth F.m_expression (eVar 0) (aCons (eOp oSub (eVar 1) (eC (.int 1))) aNil)))
    (sSeq (sAsg 5 (eMeth F.m_next (eVar 0) aNil))
    (sSeq (sIf (bT (eNinKD kv_KINDS (eVar 5))) (sRaise 0) sNx)
    (sAsg 4 (eTup (aCons (eIxKD kv_KINDS (eVar 5)) (aCons (eVar 3) (aCons (eMeth F.m_expression (eVar 0) (aCons (eOp oSub (eVar 1) (eC (.int 1))) aNil)) aNil)))))))))
    (sSeq (sDrop (eMeth F.m_need (eVar 0) (aCons (eC (.str [41])) aNil)))
    (sRet (eVar 4))))
def b_m_expression (F : Fs) : SF :=
    (sSeq (sIf (bT (eOp (oI leI) (eVar 1) (eC (.int 0)))) (sRaise 0) sNx)
    (sSeq (sAsg 2 (eMeth F.m_next (eVar 0) aNil))
    (sSeq (sIf (bT (eOp oEq (eVar 2) (eC (.str [40])))) (sRet (eMeth F.m_inside (eVar 0) (aCons (eVar 1) aNil))) sNx)
    (sSeq (sIf (bAnd (bT (eOp oEq (eVar 2) (eC (.str [101])))) (bNot (bT (eFld 1 (eVar 0))))) (sRet (eTup (aCons (eC (.str [101, 97, 114, 108, 121])) aNil))) sNx)
    (sSeq (sIf (bT (eOp (oInL false) (eVar 2) (eC d_LATES_reading))) (sRet (eTup (aCons (eC (.str [108, 97, 116, 101])) (aCons (eBM oIndex (eC d_LATES_reading) (aCons (eVar 2) aNil)) aNil)))) sNx)
    (sSeq (sIf (bAnd (bT (eOp oNe (eVar 2) (eC (.str [])))) (bT (eOp oInS (eOp oIxS (eVar 2) (eC (.int 0))) (eC d_DIGITS_reading)))) (sSeq (sFldS 2 (eVar 0) (eOp oSub (eFld 2 (eVar 0)) (eC (.int 1))))
    (sRet (eTup (aCons (eC (.str [110, 117, 109, 98, 101, 114])) (aCons (eMeth F.m_number (eVar 0) aNil) aNil))))) sNx)
    (sRet (eMeth F.m_call (eVar 0) (aCons (eVar 2) (aCons (eVar 1) aNil))))))))))
def b_m_function (F : Fs) : SF :=
    (sSeq (sPar 1 2 (aCons (eMeth F.m_next (eVar 0) aNil) (aCons (eC (.int 0)) aNil)))
    (sSeq (sDrop (eMeth F.m_need (eVar 0) (aCons (eC (.str [40])) aNil)))
    (sSeq (sIf (bNot (bT (eFld 1 (eVar 0)))) (sSeq (sDrop (eMeth F.m_need (eVar 0) (aCons (eC (.str [101])) aNil)))
    (sIf (bT (eOp oEq (eMeth F.m_look (eVar 0) aNil) (eC (.str [124])))) (sSeq (sDrop (eMeth F.m_next (eVar 0) aNil))
    (sSeq (sAsg 2 (eMeth F.m_letters (eVar 0) aNil))
    (sIf (bT (eOp oEq (eVar 2) (eC (.int 0)))) (sRaise 0) sNx))) sNx)) (sAsg 2 (eMeth F.m_letters (eVar 0) aNil)))
    (sSeq (sDrop (eMeth F.m_need (eVar 0) (aCons (eC (.str [41])) aNil)))
    (sSeq (sDrop (eMeth F.m_need (eVar 0) (aCons (eC (.str [61])) aNil)))
    (sRet (eTup (aCons (eVar 1) (aCons (eVar 2) (aCons (eMeth F.m_expression (eVar 0) (aCons (eC d_MOST_DEEP) aNil)) aNil))))))))))
def b_m_letters (F : Fs) : SF :=
    (sSeq (sAsg 1 (eC (.int 0)))
    (sSeq (whileF (bT (eOp (oInL false) (eMeth F.m_look (eVar 0) aNil) (eC d_LATES_reading))) (sSeq (sIf (bOr (bT (eOp oEq (eVar 1) (eCB oLen (aCons (eC d_LATES_reading) aNil)))) (bT (eOp oNe (eMeth F.m_next (eVar 0) aNil) (eOp oIxL (eC d_LATES_reading) (eVar 1))))) (sRaise 0) sNx)
    (sSeq (sAsg 1 (eOp oAdd (eVar 1) (eC (.int 1))))
    (sSeq (sIf (bT (eOp oNe (eMeth F.m_look (eVar 0) aNil) (eC (.str [44])))) (sRet (eVar 1)) sNx)
    (sSeq (sDrop (eMeth F.m_next (eVar 0) aNil))
    (sIf (bT (eOp oEq (eMeth F.m_look (eVar 0) aNil) (eC (.str [41])))) (sRaise 0) sNx))))) 10000)
    (sRet (eVar 1))))
def b_m_functions (F : Fs) : SF :=
    (sSeq (sAsg 1 (eLst (aCons (eMeth F.m_function (eVar 0) aNil) aNil)))
    (sSeq (whileF (bT (eOp (oI ltI) (eFld 2 (eVar 0)) (eCB oLen (aCons (eFld 0 (eVar 0)) aNil)))) (sSeq (sDrop (eMeth F.m_need (eVar 0) (aCons (eC (.str [59])) aNil)))
    (sDrop (eBM oAppend (eVar 1) (aCons (eMeth F.m_function (eVar 0) aNil) aNil)))) 10000)
    (sRet (eCB oTuple (aCons (eVar 1) aNil)))))
def b_read_program (F : Fs) : SF :=
    (sSeq (sIf (bNot (bT (eIsi Ty.str (eVar 0)))) (sRaise 1) sNx)
    (sSeq (sAsg 1 (eMeth F.m_functions (eMake F.m_init (aCons (eCB F.words_of (aCons (eVar 0) (aCons (eC (.bl false)) aNil))) (aCons (eC (.bl false)) aNil))) aNil))
    (sSeq (sIf (bNot (bT (eCB F.is_program (aCons (eVar 1) aNil)))) (sRaise 0) sNx)
    (sRet (eVar 1)))))
def b_read_plain (F : Fs) : SF :=
    (sSeq (sIf (bNot (bT (eIsi Ty.str (eVar 0)))) (sRaise 1) sNx)
    (sSeq (sAsg 1 (eMeth F.m_functions (eMake F.m_init (aCons (eCB F.words_of (aCons (eVar 0) (aCons (eC (.bl true)) aNil))) (aCons (eC (.bl true)) aNil))) aNil))
    (sSeq (sIf (bNot (bT (eCB F.is_plain (aCons (eVar 1) aNil)))) (sRaise 0) sNx)
    (sRet (eVar 1)))))
def b_write_move (F : Fs) : SF :=
    (sSeq (sIf (bT (eOp oEq (eOp oIxT (eVar 0) (eC (.int 0))) (eC (.str [103, 105, 118, 101])))) (sRet (eCB oStrI (aCons (eOp oIxT (eVar 0) (eC (.int 1))) aNil))) sNx)
    (sSeq (sIf (bT (eOp oEq (eOp oIxT (eVar 0) (eC (.int 1))) (eC (.int 0)))) (sRet (eC (.str [101]))) sNx)
    (sRet (eIf (bT (eOp (oI fun i j => ltI j i) (eOp oIxT (eVar 0) (eC (.int 1))) (eC (.int 0)))) (eJoined (jCons (eC (.str [101, 32, 43, 32])) (jCons (eFmt (eOp oIxT (eVar 0) (eC (.int 1)))) jNil))) (eJoined (jCons (eC (.str [101, 32, 45, 32])) (jCons (eFmt (eOp oSub (eC (.int 0)) (eOp oIxT (eVar 0) (eC (.int 1))))) jNil)))))))
def b_write_test (F : Fs) : SF :=
    (sSeq (sIf (bT (eOp oEq (eOp oIxT (eVar 0) (eC (.int 0))) (eC (.str [98, 101, 108, 111, 119])))) (sRet (eJoined (jCons (eC (.str [101, 32, 60, 32])) (jCons (eFmt (eOp oIxT (eVar 0) (eC (.int 1)))) jNil)))) sNx)
    (sSeq (sIf (bT (eOp oEq (eOp oIxT (eVar 0) (eC (.int 0))) (eC (.str [114, 101, 115, 116])))) (sRet (eJoined (jCons (eC (.str [101, 32, 109, 111, 100, 32])) (jCons (eFmt (eOp oIxT (eVar 0) (eC (.int 1)))) (jCons (eC (.str [32, 61, 32])) (jCons (eFmt (eOp oIxT (eVar 0) (eC (.int 2)))) jNil)))))) sNx)
    (sRet (eJoined (jCons (eFmt (eCB F.write_one (aCons (eOp oIxT (eVar 0) (eC (.int 1))) aNil))) (jCons (eC (.str [32, 60, 32])) (jCons (eFmt (eCB F.write_one (aCons (eOp oIxT (eVar 0) (eC (.int 2))) aNil))) jNil)))))))
def b_write_call (F : Fs) : SF :=
    (sSeq (sAsg 1 (eM1 oJoin (eC (.str [44, 32])) (eLc 10000 [2] (iT (eOp oIxT (eVar 0) (eNeg (eC (.int 1))))) (gN 2) (eCB F.write_one (aCons (eVar 2) aNil)))))
    (sSeq (sIf (bT (eOp oEq (eCB oLen (aCons (eVar 0) aNil)) (eC (.int 3)))) (sRet (eJoined (jCons (eFmt (eOp oIxT (eVar 0) (eC (.int 1)))) (jCons (eC (.str [40])) (jCons (eFmt (eVar 1)) (jCons (eC (.str [41])) jNil)))))) sNx)
    (sRet (eIf (bTru (eVar 1)) (eJoined (jCons (eFmt (eOp oIxT (eVar 0) (eC (.int 1)))) (jCons (eC (.str [40])) (jCons (eFmt (eCB F.write_move (aCons (eOp oIxT (eVar 0) (eC (.int 2))) aNil))) (jCons (eC (.str [32, 124, 32])) (jCons (eFmt (eVar 1)) (jCons (eC (.str [41])) jNil))))))) (eJoined (jCons (eFmt (eOp oIxT (eVar 0) (eC (.int 1)))) (jCons (eC (.str [40])) (jCons (eFmt (eCB F.write_move (aCons (eOp oIxT (eVar 0) (eC (.int 2))) aNil))) (jCons (eC (.str [41])) jNil)))))))))
def b_write_one (F : Fs) : SF :=
    (sSeq (sIf (bT (eOp oEq (eOp oIxT (eVar 0) (eC (.int 0))) (eC (.str [110, 117, 109, 98, 101, 114])))) (sRet (eCB oStrI (aCons (eOp oIxT (eVar 0) (eC (.int 1))) aNil))) sNx)
    (sSeq (sIf (bT (eOp oEq (eOp oIxT (eVar 0) (eC (.int 0))) (eC (.str [101, 97, 114, 108, 121])))) (sRet (eC (.str [101]))) sNx)
    (sSeq (sIf (bT (eOp oEq (eOp oIxT (eVar 0) (eC (.int 0))) (eC (.str [108, 97, 116, 101])))) (sRet (eOp oIxS (eC d_LATES_texts) (eOp oIxT (eVar 0) (eC (.int 1))))) sNx)
    (sSeq (sIf (bT (eOp oEq (eOp oIxT (eVar 0) (eC (.int 0))) (eC (.str [99, 97, 108, 108])))) (sRet (eCB F.write_call (aCons (eVar 0) aNil))) sNx)
    (sSeq (sIf (bT (eOp oEq (eOp oIxT (eVar 0) (eC (.int 0))) (eC (.str [105, 102])))) (sRet (eJoined (jCons (eC (.str [40, 105, 102, 32])) (jCons (eFmt (eCB F.write_test (aCons (eOp oIxT (eVar 0) (eC (.int 1))) aNil))) (jCons (eC (.str [32, 116, 104, 101, 110, 32])) (jCons (eFmt (eCB F.write_one (aCons (eOp oIxT (eVar 0) (eC (.int 2))) aNil))) (jCons (eC (.str [32, 101, 108, 115, 101, 32])) (jCons (eFmt (eCB F.write_one (aCons (eOp oIxT (eVar 0) (eC (.int 3))) aNil))) (jCons (eC (.str [41])) jNil))))))))) sNx)
    (sRet (eJoined (jCons (eC (.str [40])) (jCons (eFmt (eCB F.write_one (aCons (eOp oIxT (eVar 0) (eC (.int 1))) aNil))) (jCons (eC (.str [32])) (jCons (eFmt (eIxKD kv_SIGNS (eOp oIxT (eVar 0) (eC (.int 0))))) (jCons (eC (.str [32])) (jCons (eFmt (eCB F.write_one (aCons (eOp oIxT (eVar 0) (eC (.int 2))) aNil))) (jCons (eC (.str [41])) jNil))))))))))))))
def b_write_program (F : Fs) : SF :=
    (sSeq (sDrop (eCB F.need_program (aCons (eVar 0) aNil)))
    (sSeq (sAsg 1 (eLst aNil))
    (sSeq (sFor 10000 (iT (eVar 0)) (gT (gsC (gN 2) (gsC (gN 3) (gsC (gN 4) gs0)))) (sSeq (sAsg 5 (eM1 oJoinS (eC (.str [44, 32])) (eSlS (eC d_LATES_texts) n0 (nE (eVar 3)))))
    (sDrop (eBM oAppend (eVar 1) (aCons (eIf (bTru (eVar 5)) (eJoined (jCons (eFmt (eVar 2)) (jCons (eC (.str [40, 101, 32, 124, 32])) (jCons (eFmt (eVar 5)) (jCons (eC (.str [41, 32, 61, 32])) (jCons (eFmt (eCB F.write_one (aCons (eVar 4) aNil))) jNil)))))) (eJoined (jCons (eFmt (eVar 2)) (jCons (eC (.str [40, 101, 41, 32, 61, 32])) (jCons (eFmt (eCB F.write_one (aCons (eVar 4) aNil))) jNil))))) aNil)))))
    (sRet (eM1 oJoin (eC (.str [59, 32])) (eVar 1))))))
def b_write_plain (F : Fs) : SF :=
    (sSeq (sDrop (eCB F.need_plain (aCons (eVar 0) aNil)))
    (sSeq (sAsg 1 (eLst aNil))
    (sSeq (sFor 10000 (iT (eVar 0)) (gT (gsC (gN 2) (gsC (gN 3) (gsC (gN 4) gs0)))) (sSeq (sAsg 5 (eM1 oJoinS (eC (.str [44, 32])) (eSlS (eC d_LATES_texts) n0 (nE (eVar 3)))))
    (sDrop (eBM oAppend (eVar 1) (aCons (eJoined (jCons (eFmt (eVar 2)) (jCons (eC (.str [40])) (jCons (eFmt (eVar 5)) (jCons (eC (.str [41, 32, 61, 32])) (jCons (eFmt (eCB F.write_one (aCons (eVar 4) aNil))) jNil)))))) aNil)))))
    (sRet (eM1 oJoin (eC (.str [59, 32])) (eVar 1))))))
def b__law_taken (F : Fs) : SF :=
    (sSeq (sIf (bT (eOp (oI fun i j => ltI j i) (eOp oIxL (eVar 0) (eC (.int 3))) (eC (.int 0)))) (sSeq (sAsg 3 (eOp oMod (eCB oIntI (aCons (eOp oIxL (eVar 0) (eC (.int 3))) aNil)) (eVar 1)))
    (sSeq (sSub (eVar 0) (eC (.int 3)) (eOp oFdiv (eOp oIxL (eVar 0) (eC (.int 3))) (eVar 1)))
    (sRet (eVar 3)))) sNx)
    (sSeq (sSub (eVar 0) (eC (.int 1)) (eOp oAdd (eOp oIxL (eVar 0) (eC (.int 1))) (eC (.int 1))))
    (sSeq (sIf (bT (eOp (oI fun i j => ltI j i) (eOp oIxL (eVar 0) (eC (.int 1))) (eCB oLen (aCons (eOp oIxL (eVar 0) (eC (.int 0))) aNil)))) (sSeq (sSub (eVar 0) (eC (.int 2)) (eOp oMod (eCB oIntI (aCons (eOp oAdd (eOp oMul (eOp oIxL (eVar 0) (eC (.int 2))) (eC (.int 48271))) (eC (.int 11))) aNil)) (eC (.int 2147483647))))
    (sRet (eOp oMod (eCB oIntI (aCons (eOp oFdiv (eOp oIxL (eVar 0) (eC (.int 2))) (eC (.int 7))) aNil)) (eVar 1)))) sNx)
    (sSeq (sAsg 2 (eOp oIxL (eOp oIxL (eVar 0) (eC (.int 0))) (eOp oSub (eOp oIxL (eVar 0) (eC (.int 1))) (eC (.int 1)))))
    (sSeq (sSub (eVar 0) (eC (.int 2)) (eOp oMod (eCB oIntI (aCons (eOp oAdd (eOp oAdd (eOp oMul (eOp oIxL (eVar 0) (eC (.int 2))) (eC (.int 48271))) (eVar 2)) (eC (.int 11))) aNil)) (eC (.int 2147483647))))
    (sSeq (sIf (bT (eOp (oI fun i j => leI j i) (eVar 2) (eOp oPow (eC (.int 10)) (eC (.int 18))))) (sSub (eVar 0) (eC (.int 3)) (eOp oFdiv (eVar 2) (eVar 1))) sNx)
    (sRet (eOp oMod (eCB oIntI (aCons (eVar 2) aNil)) (eVar 1)))))))))
def b__law_pick (F : Fs) : SF :=
    (sRet (eOp oIxL (eVar 1) (eCB F._law_taken (aCons (eVar 0) (aCons (eCB oLen (aCons (eVar 1) aNil)) aNil)))))
def fsBad : Fs := ⟨fun _ _ => .bad, fun _ _ => .bad, fun _ _ => .bad, fun _ _ => .bad, fun _ _ => .bad, fun _ _ => .bad, fun _ _ => .bad, fun _ _ => .bad, fun _ _ => .bad, fun _ _ => .bad, fun _ _ => .bad, fun _ _ => .bad, fun _ _ => .bad, fun _ _ => .bad, fun _ _ => .bad, fun _ _ => .bad, fun _ _ => .bad, fun _ _ => .bad, fun _ _ => .bad, fun _ _ => .bad, fun _ _ => .bad, fun _ _ => .bad, fun _ _ => .bad, fun _ _ => .bad, fun _ _ => .bad, fun _ _ => .bad, fun _ _ => .bad, fun _ _ => .bad, fun _ _ => .bad, fun _ _ => .bad, fun _ _ => .bad, fun _ _ => .bad, fun _ _ => .bad, fun _ _ => .bad, fun _ _ => .bad, fun _ _ => .bad, fun _ _ => .bad, fun _ _ => .bad, fun _ _ => .bad, fun _ _ => .bad, fun _ _ => .bad, fun _ _ => .bad, fun _ _ => .bad, fun _ _ => .bad⟩
def fsUp (F : Fs) : Fs where
  is_in := runF 0 (b_is_in F)
  is_name := runF 1 (b_is_name F)
  is_tuple := runF 0 (b_is_tuple F)
  is_move := runF 0 (b_is_move F)
  is_test := runF 1 (b_is_test F)
  is_expression := cutF (runF 1 (b_is_expression F))
  parts_of := runF 0 (b_parts_of F)
  is_all_early := runF 1 (b_is_all_early F)
  nodes_of := runF 1 (b_nodes_of F)
  calls_of := runF 2 (b_calls_of F)
  is_function := runF 0 (b_is_function F)
  is_program := cutF (runF 6 (b_is_program F))
  need_program := runF 0 (b_need_program F)
  point_of := runF 3 (b_point_of F)
  is_plain_expression := cutF (runF 1 (b_is_plain_expression F))
  is_plain_function := runF 0 (b_is_plain_function F)
  is_plain := cutF (runF 6 (b_is_plain F))
  need_plain := runF 0 (b_need_plain F)
  row_end := runF 0 (b_row_end F)
  words_of := runF 3 (b_words_of F)
  m_init := runF 0 (b_m_init F)
  m_look := runF 0 (b_m_look F)
  m_next := runF 1 (b_m_next F)
  m_need := runF 0 (b_m_need F)
  m_number := runF 1 (b_m_number F)
  m_move := runF 2 (b_m_move F)
  m_some := runF 1 (b_m_some F)
  m_call := runF 1 (b_m_call F)
  m_test := runF 3 (b_m_test F)
  m_inside := runF 4 (b_m_inside F)
  m_expression := runF 1 (b_m_expression F)
  m_function := runF 2 (b_m_function F)
  m_letters := runF 1 (b_m_letters F)
  m_functions := runF 1 (b_m_functions F)
  read_program := cutF (runF 1 (b_read_program F))
  read_plain := cutF (runF 1 (b_read_plain F))
  write_move := runF 0 (b_write_move F)
  write_test := runF 0 (b_write_test F)
  write_call := runF 2 (b_write_call F)
  write_one := cutF (runF 0 (b_write_one F))
  write_program := cutF (runF 5 (b_write_program F))
  write_plain := cutF (runF 5 (b_write_plain F))
  _law_taken := runF 2 (b__law_taken F)
  _law_pick := runF 0 (b__law_pick F)
def b_law1 (F : Fs) : SF :=
    (sAsg 1 (eLst (aCons (eVar 0) (aCons (eC (.int 0)) (aCons (eC (.int 14014)) (aCons (eC (.int 0)) aNil))))))
def b_law2 (F : Fs) : SF :=
    (sAsg 2 (eCB F._law_pick (aCons (eVar 1) (aCons (eLst (aCons (eC (.str [])) (aCons (eC (.str [32])) (aCons (eC (.str [32, 32, 32])) aNil)))) aNil))))
def l_0 (F : Fs) : SF :=
    (sAsg 3 (eLst (aCons (eC (.str [])) (aCons (eC (.str [32])) (aCons (eC (.str [102])) (aCons (eC (.str [102, 40, 101, 41])) (aCons (eC (.str [102, 40, 101, 41, 32, 61])) (aCons (eC (.str [102, 40, 101, 41, 32, 61, 32, 49, 59])) (aCons (eC (.str [102, 40, 101, 41, 32, 61, 32, 49, 59, 32, 102, 40, 101, 41, 32, 61, 32, 50])) (aCons (eC (.str [102, 40, 97, 41, 32, 61, 32, 49])) (aCons (eC (.str [102, 40, 101, 124, 41, 32, 61, 32, 49])) (aCons (eC (.str [102, 40, 101, 32, 124, 32, 98, 41, 32, 61, 32, 98])) aNil))))))))))))
def l_1 (F : Fs) : SF :=
    (sAsg 3 (eOp oCatL (eVar 3) (eLst (aCons (eC (.str [102, 40, 101, 32, 124, 32, 97, 44, 32, 99, 41, 32, 61, 32, 97])) (aCons (eC (.str [102, 40, 101, 32, 124, 32, 97, 44, 32, 97, 41, 32, 61, 32, 97])) aNil)))))
def l_2 (F : Fs) : SF :=
    (sAsg 3 (eOp oCatL (eVar 3) (eLst (aCons (eC (.str [102, 40, 101, 32, 124, 32, 97, 44, 41, 32, 61, 32, 97])) (aCons (eC (.str [102, 40, 101, 41, 32, 61, 32, 97])) (aCons (eC (.str [102, 40, 101, 41, 32, 61, 32, 40, 49, 32, 43, 32, 50])) (aCons (eC (.str [102, 40, 101, 41, 32, 61, 32, 49, 32, 43, 32, 50])) (aCons (eC (.str [102, 40, 101, 41, 32, 61, 32, 40, 49, 41])) (aCons (eC (.str [102, 40, 101, 41, 32, 61, 32, 40, 49, 32, 47, 32, 50, 41])) aNil)))))))))
def l_3 (F : Fs) : SF :=
    (sAsg 3 (eOp oCatL (eVar 3) (eLst (aCons (eC (.str [102, 40, 101, 41, 32, 61, 32, 40, 49, 32, 43, 32, 50, 32, 43, 32, 51, 41])) (aCons (eC (.str [102, 40, 101, 41, 32, 61, 32, 40, 105, 102, 32, 101, 32, 60, 32, 49, 32, 116, 104, 101, 110, 32, 50, 41])) (aCons (eC (.str [102, 40, 101, 41, 32, 61, 32, 105, 102, 32, 101, 32, 60, 32, 49, 32, 116, 104, 101, 110, 32, 50, 32, 101, 108, 115, 101, 32, 51])) aNil))))))
def l_4 (F : Fs) : SF :=
    (sAsg 3 (eOp oCatL (eVar 3) (eLst (aCons (eC (.str [102, 40, 101, 41, 32, 61, 32, 40, 105, 102, 32, 49, 32, 60, 32, 50, 32, 116, 104, 101, 110, 32, 50, 32, 101, 108, 115, 101, 32, 51, 41])) (aCons (eC (.str [102, 40, 101, 41, 32, 61, 32, 40, 105, 102, 32, 101, 32, 60, 32, 101, 32, 116, 104, 101, 110, 32, 50, 32, 101, 108, 115, 101, 32, 51, 41])) (aCons (eC (.str [102, 40, 101, 41, 32, 61, 32, 40, 105, 102, 32, 101, 32, 60, 32, 49, 48, 48, 49, 32, 116, 104, 101, 110, 32, 50, 32, 101, 108, 115, 101, 32, 51, 41])) aNil))))))
def l_5 (F : Fs) : SF :=
    (sAsg 3 (eOp oCatL (eVar 3) (eLst (aCons (eC (.str [102, 40, 101, 41, 32, 61, 32, 40, 105, 102, 32, 101, 32, 109, 111, 100, 32, 49, 32, 61, 32, 48, 32, 116, 104, 101, 110, 32, 50, 32, 101, 108, 115, 101, 32, 51, 41])) (aCons (eC (.str [102, 40, 101, 41, 32, 61, 32, 40, 105, 102, 32, 101, 32, 109, 111, 100, 32, 55, 32, 61, 32, 48, 32, 116, 104, 101, 110, 32, 50, 32, 101, 108, 115, 101, 32, 51, 41])) aNil)))))
def l_6 (F : Fs) : SF :=
    (sAsg 3 (eOp oCatL (eVar 3) (eLst (aCons (eC (.str [102, 40, 101, 41, 32, 61, 32, 40, 105, 102, 32, 101, 32, 109, 111, 100, 32, 51, 32, 61, 32, 51, 32, 116, 104, 101, 110, 32, 50, 32, 101, 108, 115, 101, 32, 51, 41])) aNil))))
def l_7 (F : Fs) : SF :=
    (sAsg 3 (eOp oCatL (eVar 3) (eLst (aCons (eC (.str [102, 40, 101, 41, 32, 61, 32, 103, 40, 101, 41])) (aCons (eC (.str [102, 40, 101, 41, 32, 61, 32, 102, 40, 41])) (aCons (eC (.str [102, 40, 101, 41, 32, 61, 32, 102, 40, 49, 48, 48, 49, 41])) (aCons (eC (.str [102, 40, 101, 41, 32, 61, 32, 102, 40, 101, 32, 43, 32, 54, 41])) (aCons (eC (.str [102, 40, 101, 41, 32, 61, 32, 102, 40, 101, 32, 43, 32, 48, 41])) (aCons (eC (.str [102, 40, 101, 41, 32, 61, 32, 102, 40, 101, 32, 124, 41])) aNil)))))))))
def l_8 (F : Fs) : SF :=
    (sAsg 3 (eOp oCatL (eVar 3) (eLst (aCons (eC (.str [102, 40, 101, 41, 32, 61, 32, 102, 40, 101, 32, 124, 32, 49, 41])) (aCons (eC (.str [102, 40, 101, 32, 124, 32, 97, 41, 32, 61, 32, 102, 40, 101, 41])) (aCons (eC (.str [102, 40, 101, 32, 124, 32, 97, 41, 32, 61, 32, 102, 40, 101, 32, 124, 32, 97, 44, 32, 97, 41])) (aCons (eC (.str [102, 40, 101, 32, 124, 32, 97, 41, 32, 61, 32, 102, 40, 97, 32, 124, 32, 97, 41])) (aCons (eC (.str [102, 40, 101, 41, 32, 61, 32, 48, 49])) aNil))))))))
def l_9 (F : Fs) : SF :=
    (sAsg 3 (eOp oCatL (eVar 3) (eLst (aCons (eC (.str [102, 40, 101, 41, 32, 61, 32, 49, 48, 48, 48, 48, 48, 49])) (aCons (eC (.str [102, 40, 101, 41, 32, 61, 32, 49, 120])) (aCons (eC (.str [102, 40, 101, 41, 32, 61, 32, 120, 49])) aNil))))))
def l_10 (F : Fs) : SF :=
    (sAsg 3 (eOp oCatL (eVar 3) (eLst (aCons (eC (.str [105, 102, 40, 101, 41, 32, 61, 32, 49])) (aCons (eC (.str [109, 111, 100, 40, 101, 41, 32, 61, 32, 49])) (aCons (eC (.str [97, 40, 101, 41, 32, 61, 32, 49])) (aCons (eC (.str [101, 40, 101, 41, 32, 61, 32, 49])) (aCons (eC (.str [116, 111, 111, 108, 111, 110, 103, 110, 97, 109, 101, 40, 101, 41, 32, 61, 32, 49])) (aCons (eC (.str [70, 40, 101, 41, 32, 61, 32, 49])) (aCons (eC (.str [102, 95, 49, 40, 101, 41, 32, 61, 32, 49])) aNil))))))))))
def l_11 (F : Fs) : SF :=
    (sAsg 3 (eOp oCatL (eVar 3) (eLst (aCons (eC (.str [102, 40, 101, 41, 32, 61, 32, 40, 97, 32, 43, 32, 49, 41])) (aCons (eC (.str [102, 40, 101, 41, 32, 61, 61, 32, 49])) (aCons (eC (.str [102, 40, 101, 41, 32, 61, 32, 49, 32, 102])) (aCons (eC (.str [102, 40, 101, 32, 124, 32, 97, 44, 32, 98, 44, 32, 99, 44, 32, 100, 44, 32, 101, 41, 32, 61, 32, 49])) (aCons (eC (.str [102, 40, 101, 32, 124, 32, 97, 44, 32, 98, 44, 32, 99, 44, 32, 100, 44, 32, 97, 41, 32, 61, 32, 49])) (aCons (eC (.str [102, 40, 101, 41, 32, 61, 32, 45, 49])) aNil)))))))))
def l_12 (F : Fs) : SF :=
    (sAsg 3 (eOp oCatL (eVar 3) (eLst (aCons (eC (.str [102, 40, 101, 41, 32, 61, 32, 40, 105, 102, 97, 32, 60, 32, 49, 32, 116, 104, 101, 110, 32, 49, 32, 101, 108, 115, 101, 32, 50, 41])) aNil))))
def lb_13 (F : Fs) : SF :=
    (sIf (bT (eOp oNe (eTold [105, 110, 118, 97, 108, 105, 100] [111, 116, 104, 101, 114] (eCB F.read_program (aCons (eOp oCatS (eVar 2) (eVar 4)) aNil))) (eC (.str [105, 110, 118, 97, 108, 105, 100])))) (sRet (eC (.bl false))) sNx)
def l_13 (F : Fs) : SF := sFor 10000 (iL (eVar 3)) (gN 4) (lb_13 F)
def l_14 (F : Fs) : SF :=
    (sAsg 5 (eLst (aCons (eC (.str [102, 40, 101, 41, 61, 49])) (aCons (eC (.str [102, 40, 101, 124, 97, 41, 61, 97])) (aCons (eC (.str [102, 40, 101, 32, 124, 32, 97, 44, 32, 98, 44, 32, 99, 44, 32, 100, 41, 32, 61, 32, 100])) (aCons (eC (.str [102, 40, 101, 41, 32, 61, 32, 40, 49, 32, 43, 32, 50, 41])) (aCons (eC (.str [102, 40, 101, 41, 32, 61, 32, 40, 105, 102, 32, 101, 32, 60, 32, 49, 48, 48, 48, 32, 116, 104, 101, 110, 32, 50, 32, 101, 108, 115, 101, 32, 51, 41])) aNil)))))))
def l_15 (F : Fs) : SF :=
    (sAsg 5 (eOp oCatL (eVar 5) (eLst (aCons (eC (.str [102, 40, 101, 41, 32, 61, 32, 40, 105, 102, 32, 101, 32, 109, 111, 100, 32, 54, 32, 61, 32, 53, 32, 116, 104, 101, 110, 32, 50, 32, 101, 108, 115, 101, 32, 51, 41])) (aCons (eC (.str [102, 40, 101, 32, 124, 32, 97, 41, 32, 61, 32, 40, 105, 102, 32, 101, 32, 60, 32, 97, 32, 116, 104, 101, 110, 32, 50, 32, 101, 108, 115, 101, 32, 51, 41])) aNil)))))
def l_16 (F : Fs) : SF :=
    (sAsg 5 (eOp oCatL (eVar 5) (eLst (aCons (eC (.str [102, 40, 101, 32, 124, 32, 97, 41, 32, 61, 32, 40, 105, 102, 32, 97, 32, 60, 32, 101, 32, 116, 104, 101, 110, 32, 50, 32, 101, 108, 115, 101, 32, 51, 41])) (aCons (eC (.str [102, 40, 101, 41, 32, 61, 32, 102, 40, 101, 41])) (aCons (eC (.str [102, 40, 101, 41, 32, 61, 32, 102, 40, 48, 41])) (aCons (eC (.str [102, 40, 101, 41, 32, 61, 32, 102, 40, 101, 32, 43, 32, 53, 41])) (aCons (eC (.str [102, 40, 101, 41, 32, 61, 32, 102, 40, 101, 32, 45, 32, 53, 41])) aNil))))))))
def l_17 (F : Fs) : SF :=
    (sAsg 5 (eOp oCatL (eVar 5) (eLst (aCons (eC (.str [120, 40, 101, 41, 32, 61, 32, 49, 48, 48, 48, 48, 48, 48, 59, 32, 121, 40, 101, 41, 32, 61, 32, 120, 40, 49, 48, 48, 48, 41])) aNil))))
def lb_18 (F : Fs) : SF :=
    (sSeq (sAsg 7 (eRep [32] [] (eVar 4)))
    (sSeq (sIf (bT (eOp oNe (eRep [32] [] (eCB F.write_program (aCons (eCB F.read_program (aCons (eOp oCatS (eOp oCatS (eVar 2) (eVar 4)) (eVar 2)) aNil)) aNil))) (eVar 7))) (sSeq (sRet (eC (.bl false)))
    sNx) sNx)
    sNx))
def l_18 (F : Fs) : SF := sFor 10000 (iL (eVar 5)) (gN 4) (lb_18 F)
def l_19 (F : Fs) : SF :=
    (sAsg 3 (eLst (aCons (eC (.str [102, 95, 49, 40, 41, 32, 61, 32, 97])) (aCons (eC (.str [102, 95, 49, 40, 101, 41, 32, 61, 32, 49])) (aCons (eC (.str [102, 40, 97, 41, 32, 61, 32, 97])) (aCons (eC (.str [102, 95, 48, 49, 40, 41, 32, 61, 32, 49])) (aCons (eC (.str [102, 95, 40, 41, 32, 61, 32, 49])) (aCons (eC (.str [95, 49, 40, 41, 32, 61, 32, 49])) (aCons (eC (.str [102, 95, 49, 40, 41, 32, 61, 32, 101])) aNil)))))))))
def l_20 (F : Fs) : SF :=
    (sAsg 3 (eOp oCatL (eVar 3) (eLst (aCons (eC (.str [102, 95, 49, 40, 41, 32, 61, 32, 40, 105, 102, 32, 101, 32, 60, 32, 49, 32, 116, 104, 101, 110, 32, 50, 32, 101, 108, 115, 101, 32, 51, 41])) (aCons (eC (.str [102, 95, 49, 40, 41, 32, 61, 32, 102, 95, 50, 40, 41])) (aCons (eC (.str [102, 95, 49, 40, 41, 32, 61, 32, 102, 95, 49, 40, 49, 41])) (aCons (eC (.str [102, 95, 49, 40, 97, 41, 32, 61, 32, 102, 95, 49, 40, 41])) (aCons (eC (.str [102, 95, 49, 40, 41, 32, 61, 32, 49, 59, 32, 102, 95, 49, 40, 41, 32, 61, 32, 50])) aNil))))))))
def l_21 (F : Fs) : SF :=
    (sAsg 3 (eOp oCatL (eVar 3) (eLst (aCons (eC (.str [102, 95, 49, 32, 40, 41, 32, 61, 32])) (aCons (eC (.str [102, 95, 49, 48, 48, 48, 48, 48, 48, 49, 40, 41, 32, 61, 32, 49])) (aCons (eC (.str [102, 95, 49, 40, 41, 32, 61, 32, 40, 105, 102, 32, 49, 32, 109, 111, 100, 32, 50, 32, 61, 32, 49, 32, 116, 104, 101, 110, 32, 49, 32, 101, 108, 115, 101, 32, 50, 41])) (aCons (eC (.str [102, 95, 49, 120, 40, 41, 32, 61, 32, 49])) (aCons (eC (.str [102, 95, 49, 40, 98, 41, 32, 61, 32, 98])) aNil))))))))
def l_22 (F : Fs) : SF :=
    (sAsg 3 (eOp oCatL (eVar 3) (eLst (aCons (eC (.str [97, 95, 49, 40, 41, 32, 61, 32, 49])) aNil))))
def lb_23 (F : Fs) : SF :=
    (sIf (bT (eOp oNe (eTold [105, 110, 118, 97, 108, 105, 100] [111, 116, 104, 101, 114] (eCB F.read_plain (aCons (eOp oCatS (eVar 4) (eVar 2)) aNil))) (eC (.str [105, 110, 118, 97, 108, 105, 100])))) (sRet (eC (.bl false))) sNx)
def l_23 (F : Fs) : SF := sFor 10000 (iL (eVar 3)) (gN 4) (lb_23 F)
def l_24 (F : Fs) : SF :=
    (sAsg 5 (eLst (aCons (eC (.str [102, 95, 48, 40, 41, 61, 49])) (aCons (eC (.str [102, 95, 49, 48, 48, 48, 48, 48, 48, 48, 40, 97, 44, 98, 41, 61, 40, 97, 45, 98, 41])) (aCons (eC (.str [102, 95, 49, 40, 41, 61, 40, 105, 102, 32, 49, 60, 50, 32, 116, 104, 101, 110, 32, 51, 32, 101, 108, 115, 101, 32, 102, 95, 49, 40, 41, 41])) (aCons (eC (.str [102, 95, 49, 40, 41, 61, 49, 48, 48, 48, 48, 48, 48, 48, 48, 48, 48, 48, 48, 48, 48, 48, 48, 48, 48, 48, 48, 48, 48, 48, 48, 48, 48, 48, 48, 48, 48])) (aCons (eC (.str [103, 95, 50, 40, 97, 41, 61, 103, 95, 50, 40, 40, 97, 42, 103, 95, 50, 40, 97, 41, 41, 41])) aNil)))))))
def lb_25 (F : Fs) : SF :=
    (sSeq (sIf (bT (eOp oNe (eRep [32] [] (eCB F.write_plain (aCons (eCB F.read_plain (aCons (eOp oCatS (eVar 2) (eVar 4)) aNil)) aNil))) (eRep [32] [] (eVar 4)))) (sSeq (sRet (eC (.bl false)))
    sNx) sNx)
    sNx)
def l_25 (F : Fs) : SF := sFor 10000 (iL (eVar 5)) (gN 4) (lb_25 F)
def lb_26 (F : Fs) : SF :=
    (sSeq (sAsg 8 (eLst (aCons (eTold [105, 110, 118, 97, 108, 105, 100] [111, 116, 104, 101, 114] (eCB F.read_program (aCons (eVar 6) aNil))) aNil)))
    (sSeq (sDrop (eBM oAppend (eVar 8) (aCons (eTold [105, 110, 118, 97, 108, 105, 100] [111, 116, 104, 101, 114] (eCB F.read_plain (aCons (eVar 6) aNil))) aNil)))
    (sIf (bT (eOp (oEqD true) (eVar 8) (eOp oRep (eLst (aCons (eC (.str [111, 116, 104, 101, 114])) aNil)) (eC (.int 2))))) (sRet (eC (.bl false))) sNx)))
def l_26 (F : Fs) : SF := sFor 10000 (iL (eLst (aCons (eC .non) (aCons (eC (.int 3)) (aCons (eTup (aCons (eC (.str [102, 40, 101, 41, 32, 61, 32, 49])) aNil)) (aCons (eLst (aCons (eC (.str [102])) aNil)) aNil)))))) (gN 6) (lb_26 F)
def l_27 (F : Fs) : SF :=
    (sRet (eC (.bl true)))
def b_lawR (F : Fs) : SF := (sSeq (l_0 F) (sSeq (l_1 F) (sSeq (l_2 F) (sSeq (l_3 F) (sSeq (l_4 F) (sSeq (l_5 F) (sSeq (l_6 F) (sSeq (l_7 F) (sSeq (l_8 F) (sSeq (l_9 F) (sSeq (l_10 F) (sSeq (l_11 F) (sSeq (l_12 F) (sSeq (l_13 F) (sSeq (l_14 F) (sSeq (l_15 F) (sSeq (l_16 F) (sSeq (l_17 F) (sSeq (l_18 F) (sSeq (l_19 F) (sSeq (l_20 F) (sSeq (l_21 F) (sSeq (l_22 F) (sSeq (l_23 F) (sSeq (l_24 F) (sSeq (l_25 F) (sSeq (l_26 F) (sSeq (l_27 F) sNx))))))))))))))))))))))))))))
def fsN : Nat → Fs
  | 0 => fsBad
  | n + 1 => fsUp (fsN n)
end Kv

/-! Printed by pr.py: what is asked of the module behind the top. -/
namespace Kv
open PySem PySem.Spec PyProof.Rows L2 GenW
structure Fc (w : World) (K : PySem.W.Frag) (mg : Str → Option Value) where
  C : Addr
  cI : Addr
  cN : Addr
  tL : Addr
  f_is_in : Addr
  c_is_in : Addr
  fd_is_in : FuncData
  f_is_name : Addr
  c_is_name : Addr
  fd_is_name : FuncData
  f_is_tuple : Addr
  c_is_tuple : Addr
  fd_is_tuple : FuncData
  f_is_move : Addr
  c_is_move : Addr
  fd_is_move : FuncData
  f_is_test : Addr
  c_is_test : Addr
  fd_is_test : FuncData
  f_is_expression : Addr
  c_is_expression : Addr
  fd_is_expression : FuncData
  f_parts_of : Addr
  c_parts_of : Addr
  fd_parts_of : FuncData
  f_is_all_early : Addr
  c_is_all_early : Addr
  fd_is_all_early : FuncData
  f_nodes_of : Addr
  c_nodes_of : Addr
  fd_nodes_of : FuncData
  f_calls_of : Addr
  c_calls_of : Addr
  fd_calls_of : FuncData
  f_is_function : Addr
  c_is_function : Addr
  fd_is_function : FuncData
  f_is_program : Addr
  c_is_program : Addr
  fd_is_program : FuncData
  f_need_program : Addr
  c_need_program : Addr
  fd_need_program : FuncData
  f_point_of : Addr
  c_point_of : Addr
  fd_point_of : FuncData
  f_is_plain_expression : Addr
  c_is_plain_expression : Addr
  fd_is_plain_expression : FuncData
  f_is_plain_function : Addr
  c_is_plain_function : Addr
  fd_is_plain_function : FuncData
  f_is_plain : Addr
  c_is_plain : Addr
  fd_is_plain : FuncData
  f_need_plain : Addr
  c_need_plain : Addr
  fd_need_plain : FuncData
  f_row_end : Addr
  c_row_end : Addr
  fd_row_end : FuncData
  f_words_of : Addr
  c_words_of : Addr
  fd_words_of : FuncData
  f_m_init : Addr
  c_m_init : Addr
  fd_m_init : FuncData
  f_m_look : Addr
  c_m_look : Addr
  fd_m_look : FuncData
  f_m_next : Addr
  c_m_next : Addr
  fd_m_next : FuncData
  f_m_need : Addr
  c_m_need : Addr
  fd_m_need : FuncData
  f_m_number : Addr
  c_m_number : Addr
  fd_m_number : FuncData
  f_m_move : Addr
  c_m_move : Addr
  fd_m_move : FuncData
  f_m_some : Addr
  c_m_some : Addr
  fd_m_some : FuncData
  f_m_call : Addr
  c_m_call : Addr
  fd_m_call : FuncData
  f_m_test : Addr
  c_m_test : Addr
  fd_m_test : FuncData
  f_m_inside : Addr
  c_m_inside : Addr
  fd_m_inside : FuncData
  f_m_expression : Addr
  c_m_expression : Addr
  fd_m_expression : FuncData
  f_m_function : Addr
  c_m_function : Addr
  fd_m_function : FuncData
  f_m_letters : Addr
  c_m_letters : Addr
  fd_m_letters : FuncData
  f_m_functions : Addr
  c_m_functions : Addr
  fd_m_functions : FuncData
  f_read_program : Addr
  c_read_program : Addr
  fd_read_program : FuncData
  f_read_plain : Addr
  c_read_plain : Addr
  fd_read_plain : FuncData
  f_write_move : Addr
  c_write_move : Addr
  fd_write_move : FuncData
  f_write_test : Addr
  c_write_test : Addr
  fd_write_test : FuncData
  f_write_call : Addr
  c_write_call : Addr
  fd_write_call : FuncData
  f_write_one : Addr
  c_write_one : Addr
  fd_write_one : FuncData
  f_write_program : Addr
  c_write_program : Addr
  fd_write_program : FuncData
  f_write_plain : Addr
  c_write_plain : Addr
  fd_write_plain : FuncData
  f__law_taken : Addr
  c__law_taken : Addr
  fd__law_taken : FuncData
  f__law_pick : Addr
  c__law_pick : Addr
  fd__law_pick : FuncData
  t_is_name : Addr
  t_is_test : Addr
  t_is_expression : Addr
  t_is_all_early : Addr
  t_nodes_of : Addr
  t_is_program : Addr
  t_point_of : Addr
  t_is_plain_expression : Addr
  t_is_plain : Addr
  a_KINDS : Addr
  a_SIGNS : Addr
  v_MOST_NUMBER : Value
  v_MOST_GIVEN : Value
  v_MOST_MOVE : Value
  v_MOST_REST : Value
  v_MOST_LATES : Value
  v_MOST_FUNCTIONS : Value
  v_MOST_NODES : Value
  v_MOST_LETTERS : Value
  v_MOST_DEEP : Value
  v_LETTERS : Value
  v_TAKEN : Value
  v_PAIRS : Value
  v_MOST_VALUE : Value
  v_MOST_EARLY : Value
  v_MOST_PLAIN : Value
  v_DIGITS_plains : Value
  v_DIGITS_reading : Value
  v_ALONE : Value
  v_LATES_reading : Value
  v_LATES_texts : Value
  F_is_in : FunC K "is_in" "is_in" (top 19) f_is_in (.ref c_is_in) fd_is_in
  g_is_in : mg "is_in" = some (.ref f_is_in)
  F_is_name : FunC K "is_name" "is_name" (top 20) f_is_name (.ref c_is_name) fd_is_name
  g_is_name : mg "is_name" = some (.ref f_is_name)
  F_is_tuple : FunC K "is_tuple" "is_tuple" (top 21) f_is_tuple (.ref c_is_tuple) fd_is_tuple
  g_is_tuple : mg "is_tuple" = some (.ref f_is_tuple)
  F_is_move : FunC K "is_move" "is_move" (top 22) f_is_move (.ref c_is_move) fd_is_move
  g_is_move : mg "is_move" = some (.ref f_is_move)
  F_is_test : FunC K "is_test" "is_test" (top 23) f_is_test (.ref c_is_test) fd_is_test
  g_is_test : mg "is_test" = some (.ref f_is_test)
  F_is_expression : FunC K "is_expression" "is_expression" (top 24) f_is_expression (.ref c_is_expression) fd_is_expression
  g_is_expression : mg "is_expression" = some (.ref f_is_expression)
  F_parts_of : FunC K "parts_of" "parts_of" (top 25) f_parts_of (.ref c_parts_of) fd_parts_of
  g_parts_of : mg "parts_of" = some (.ref f_parts_of)
  F_is_all_early : FunC K "is_all_early" "is_all_early" (top 26) f_is_all_early (.ref c_is_all_early) fd_is_all_early
  g_is_all_early : mg "is_all_early" = some (.ref f_is_all_early)
  F_nodes_of : FunC K "nodes_of" "nodes_of" (top 27) f_nodes_of (.ref c_nodes_of) fd_nodes_of
  g_nodes_of : mg "nodes_of" = some (.ref f_nodes_of)
  F_calls_of : FunC K "calls_of" "calls_of" (top 28) f_calls_of (.ref c_calls_of) fd_calls_of
  g_calls_of : mg "calls_of" = some (.ref f_calls_of)
  F_is_function : FunC K "is_function" "is_function" (top 29) f_is_function (.ref c_is_function) fd_is_function
  g_is_function : mg "is_function" = some (.ref f_is_function)
  F_is_program : FunC K "is_program" "is_program" (top 30) f_is_program (.ref c_is_program) fd_is_program
  g_is_program : mg "is_program" = some (.ref f_is_program)
  F_need_program : FunC K "need_program" "need_program" (top 31) f_need_program (.ref c_need_program) fd_need_program
  g_need_program : mg "need_program" = some (.ref f_need_program)
  F_point_of : FunC K "point_of" "point_of" (top 37) f_point_of (.ref c_point_of) fd_point_of
  g_point_of : mg "point_of" = some (.ref f_point_of)
  F_is_plain_expression : FunC K "is_plain_expression" "is_plain_expression" (top 38) f_is_plain_expression (.ref c_is_plain_expression) fd_is_plain_expression
  g_is_plain_expression : mg "is_plain_expression" = some (.ref f_is_plain_expression)
  F_is_plain_function : FunC K "is_plain_function" "is_plain_function" (top 39) f_is_plain_function (.ref c_is_plain_function) fd_is_plain_function
  g_is_plain_function : mg "is_plain_function" = some (.ref f_is_plain_function)
  F_is_plain : FunC K "is_plain" "is_plain" (top 40) f_is_plain (.ref c_is_plain) fd_is_plain
  g_is_plain : mg "is_plain" = some (.ref f_is_plain)
  F_need_plain : FunC K "need_plain" "need_plain" (top 41) f_need_plain (.ref c_need_plain) fd_need_plain
  g_need_plain : mg "need_plain" = some (.ref f_need_plain)
  F_row_end : FunC K "row_end" "row_end" (top 47) f_row_end (.ref c_row_end) fd_row_end
  g_row_end : mg "row_end" = some (.ref f_row_end)
  F_words_of : FunC K "words_of" "words_of" (top 48) f_words_of (.ref c_words_of) fd_words_of
  g_words_of : mg "words_of" = some (.ref f_words_of)
  F_m_init : FunC K "__init__" "Reading.__init__" (inClass (top 49) 0) f_m_init (.ref c_m_init) fd_m_init
  F_m_look : FunC K "look" "Reading.look" (inClass (top 49) 1) f_m_look (.ref c_m_look) fd_m_look
  M_m_look : Meth K C "look" f_m_look
  F_m_next : FunC K "next" "Reading.next" (inClass (top 49) 2) f_m_next (.ref c_m_next) fd_m_next
  M_m_next : Meth K C "next" f_m_next
  F_m_need : FunC K "need" "Reading.need" (inClass (top 49) 3) f_m_need (.ref c_m_need) fd_m_need
  M_m_need : Meth K C "need" f_m_need
  F_m_number : FunC K "number" "Reading.number" (inClass (top 49) 4) f_m_number (.ref c_m_number) fd_m_number
  M_m_number : Meth K C "number" f_m_number
  F_m_move : FunC K "move" "Reading.move" (inClass (top 49) 5) f_m_move (.ref c_m_move) fd_m_move
  M_m_move : Meth K C "move" f_m_move
  F_m_some : FunC K "some" "Reading.some" (inClass (top 49) 6) f_m_some (.ref c_m_some) fd_m_some
  M_m_some : Meth K C "some" f_m_some
  F_m_call : FunC K "call" "Reading.call" (inClass (top 49) 7) f_m_call (.ref c_m_call) fd_m_call
  M_m_call : Meth K C "call" f_m_call
  F_m_test : FunC K "test" "Reading.test" (inClass (top 49) 8) f_m_test (.ref c_m_test) fd_m_test
  M_m_test : Meth K C "test" f_m_test
  F_m_inside : FunC K "inside" "Reading.inside" (inClass (top 49) 9) f_m_inside (.ref c_m_inside) fd_m_inside
  M_m_inside : Meth K C "inside" f_m_inside
  F_m_expression : FunC K "expression" "Reading.expression" (inClass (top 49) 10) f_m_expression (.ref c_m_expression) fd_m_expression
  M_m_expression : Meth K C "expression" f_m_expression
  F_m_function : FunC K "function" "Reading.function" (inClass (top 49) 11) f_m_function (.ref c_m_function) fd_m_function
  M_m_function : Meth K C "function" f_m_function
  F_m_letters : FunC K "letters" "Reading.letters" (inClass (top 49) 12) f_m_letters (.ref c_m_letters) fd_m_letters
  M_m_letters : Meth K C "letters" f_m_letters
  F_m_functions : FunC K "functions" "Reading.functions" (inClass (top 49) 13) f_m_functions (.ref c_m_functions) fd_m_functions
  M_m_functions : Meth K C "functions" f_m_functions
  F_read_program : FunC K "read_program" "read_program" (top 50) f_read_program (.ref c_read_program) fd_read_program
  g_read_program : mg "read_program" = some (.ref f_read_program)
  F_read_plain : FunC K "read_plain" "read_plain" (top 51) f_read_plain (.ref c_read_plain) fd_read_plain
  g_read_plain : mg "read_plain" = some (.ref f_read_plain)
  F_write_move : FunC K "write_move" "write_move" (top 55) f_write_move (.ref c_write_move) fd_write_move
  g_write_move : mg "write_move" = some (.ref f_write_move)
  F_write_test : FunC K "write_test" "write_test" (top 56) f_write_test (.ref c_write_test) fd_write_test
  g_write_test : mg "write_test" = some (.ref f_write_test)
  F_write_call : FunC K "write_call" "write_call" (top 57) f_write_call (.ref c_write_call) fd_write_call
  g_write_call : mg "write_call" = some (.ref f_write_call)
  F_write_one : FunC K "write_one" "write_one" (top 58) f_write_one (.ref c_write_one) fd_write_one
  g_write_one : mg "write_one" = some (.ref f_write_one)
  F_write_program : FunC K "write_program" "write_program" (top 59) f_write_program (.ref c_write_program) fd_write_program
  g_write_program : mg "write_program" = some (.ref f_write_program)
  F_write_plain : FunC K "write_plain" "write_plain" (top 60) f_write_plain (.ref c_write_plain) fd_write_plain
  g_write_plain : mg "write_plain" = some (.ref f_write_plain)
  F__law_taken : FunC K "_law_taken" "_law_taken" (top 62) f__law_taken (.ref c__law_taken) fd__law_taken
  g__law_taken : mg "_law_taken" = some (.ref f__law_taken)
  F__law_pick : FunC K "_law_pick" "_law_pick" (top 63) f__law_pick (.ref c__law_pick) fd__law_pick
  g__law_pick : mg "_law_pick" = some (.ref f__law_pick)
  ne_is_name : tL ≠ t_is_name
  ne_is_test : tL ≠ t_is_test
  ne_is_expression : tL ≠ t_is_expression
  ne_is_all_early : tL ≠ t_is_all_early
  ne_nodes_of : tL ≠ t_nodes_of
  ne_is_program : tL ≠ t_is_program
  ne_point_of : tL ≠ t_point_of
  ne_is_plain_expression : tL ≠ t_is_plain_expression
  ne_is_plain : tL ≠ t_is_plain
  cS : Addr
  f_told : Addr
  c_told : Addr
  fd_told : FuncData
  told : ToldF K mg f_told c_told cS cI cN fd_told
  f_law : Addr
  c_law : Addr
  fd_law : FuncData
  F_law : FunC K "law" "law" (top 66) f_law (.ref c_law) fd_law
  g_law : mg "law" = some (.ref f_law)
  cl : Cls K C
  na0 : NoAttr K C "words"
  na1 : NoAttr K C "is_staged"
  na2 : NoAttr K C "at"
  mkR : Mk K C f_m_init
  gC : mg "Reading" = some (.ref C)
  x_InvalidText : ExcF K mg "InvalidText" cI
  x_NotText : ExcF K mg "NotText" cN
  mg_MOST_NUMBER : mg "MOST_NUMBER" = some v_MOST_NUMBER
  gi_MOST_NUMBER : GlobIs K d_MOST_NUMBER v_MOST_NUMBER
  mg_MOST_GIVEN : mg "MOST_GIVEN" = some v_MOST_GIVEN
  gi_MOST_GIVEN : GlobIs K d_MOST_GIVEN v_MOST_GIVEN
  mg_MOST_MOVE : mg "MOST_MOVE" = some v_MOST_MOVE
  gi_MOST_MOVE : GlobIs K d_MOST_MOVE v_MOST_MOVE
  mg_MOST_REST : mg "MOST_REST" = some v_MOST_REST
  gi_MOST_REST : GlobIs K d_MOST_REST v_MOST_REST
  mg_MOST_LATES : mg "MOST_LATES" = some v_MOST_LATES
  gi_MOST_LATES : GlobIs K d_MOST_LATES v_MOST_LATES
  mg_MOST_FUNCTIONS : mg "MOST_FUNCTIONS" = some v_MOST_FUNCTIONS
  gi_MOST_FUNCTIONS : GlobIs K d_MOST_FUNCTIONS v_MOST_FUNCTIONS
  mg_MOST_NODES : mg "MOST_NODES" = some v_MOST_NODES
  gi_MOST_NODES : GlobIs K d_MOST_NODES v_MOST_NODES
  mg_MOST_LETTERS : mg "MOST_LETTERS" = some v_MOST_LETTERS
  gi_MOST_LETTERS : GlobIs K d_MOST_LETTERS v_MOST_LETTERS
  mg_MOST_DEEP : mg "MOST_DEEP" = some v_MOST_DEEP
  gi_MOST_DEEP : GlobIs K d_MOST_DEEP v_MOST_DEEP
  mg_LETTERS : mg "LETTERS" = some v_LETTERS
  gi_LETTERS : GlobIs K d_LETTERS v_LETTERS
  mg_TAKEN : mg "TAKEN" = some v_TAKEN
  gi_TAKEN : GlobIs K d_TAKEN v_TAKEN
  mg_PAIRS : mg "PAIRS" = some v_PAIRS
  gi_PAIRS : GlobIs K d_PAIRS v_PAIRS
  mg_MOST_VALUE : mg "MOST_VALUE" = some v_MOST_VALUE
  gi_MOST_VALUE : GlobIs K d_MOST_VALUE v_MOST_VALUE
  mg_MOST_EARLY : mg "MOST_EARLY" = some v_MOST_EARLY
  gi_MOST_EARLY : GlobIs K d_MOST_EARLY v_MOST_EARLY
  mg_MOST_PLAIN : mg "MOST_PLAIN" = some v_MOST_PLAIN
  gi_MOST_PLAIN : GlobIs K d_MOST_PLAIN v_MOST_PLAIN
  mg_DIGITS_plains : mg "DIGITS_plains" = some v_DIGITS_plains
  gi_DIGITS_plains : GlobIs K d_DIGITS_plains v_DIGITS_plains
  mg_DIGITS_reading : mg "DIGITS_reading" = some v_DIGITS_reading
  gi_DIGITS_reading : GlobIs K d_DIGITS_reading v_DIGITS_reading
  mg_ALONE : mg "ALONE" = some v_ALONE
  gi_ALONE : GlobIs K d_ALONE v_ALONE
  mg_LATES_reading : mg "LATES_reading" = some v_LATES_reading
  gi_LATES_reading : GlobIs K d_LATES_reading v_LATES_reading
  mg_LATES_texts : mg "LATES_texts" = some v_LATES_texts
  gi_LATES_texts : GlobIs K d_LATES_texts v_LATES_texts
  g_KINDS : mg "KINDS" = some (.ref a_KINDS)
  kd_KINDS : DictIs K w a_KINDS kv_KINDS
  g_SIGNS : mg "SIGNS" = some (.ref a_SIGNS)
  kd_SIGNS : DictIs K w a_SIGNS kv_SIGNS
  b_isinstance : mg "isinstance" = none
  b_len : mg "len" = none
  b_all : mg "all" = none
  b_sum : mg "sum" = none
  b_int : mg "int" = none
  b_str : mg "str" = none
  b_tuple : mg "tuple" = none
  b_bool : mg "bool" = none
  b_list : mg "list" = none
  b_max : mg "max" = none
section
variable {w : World} {K : PySem.W.Frag} {mg : Str → Option Value}
def Fc.M (c : Fc w K mg) : Mo := ⟨c.C, fun n => match n with | 0 => c.cI | _ => c.cN, [c.t_is_name, c.t_is_test, c.t_is_expression, c.t_is_all_early, c.t_nodes_of, c.t_is_program, c.t_point_of, c.t_is_plain_expression, c.t_is_plain], [(c.tL, (Str.ofString "law" ++ ".<locals>.") ++ "<lambda>")]⟩
theorem Fc.nl (c : Fc w K mg) : c.tL ∉ c.M.tb := fun h => by
  have h : c.tL ∈ [c.t_is_name, c.t_is_test, c.t_is_expression, c.t_is_all_early, c.t_nodes_of, c.t_is_program, c.t_point_of, c.t_is_plain_expression, c.t_is_plain] := h
  simp only [List.mem_cons, List.not_mem_nil, or_false] at h
  rcases h with h | h | h | h | h | h | h | h | h
  · exact c.ne_is_name h
  · exact c.ne_is_test h
  · exact c.ne_is_expression h
  · exact c.ne_is_all_early h
  · exact c.ne_nodes_of h
  · exact c.ne_is_program h
  · exact c.ne_point_of h
  · exact c.ne_is_plain_expression h
  · exact c.ne_is_plain h
theorem Fc.in_is_name (c : Fc w K mg) : c.t_is_name ∈ c.M.tb := .head _
theorem Fc.nt_is_name (c : Fc w K mg) : ∀ q ∈ c.M.lt, q.1 ≠ c.t_is_name := fun q hq => by rw [List.mem_singleton.mp hq]; exact c.ne_is_name
theorem Fc.in_is_test (c : Fc w K mg) : c.t_is_test ∈ c.M.tb := .tail _ (.head _)
theorem Fc.nt_is_test (c : Fc w K mg) : ∀ q ∈ c.M.lt, q.1 ≠ c.t_is_test := fun q hq => by rw [List.mem_singleton.mp hq]; exact c.ne_is_test
theorem Fc.in_is_expression (c : Fc w K mg) : c.t_is_expression ∈ c.M.tb := .tail _ (.tail _ (.head _))
theorem Fc.nt_is_expression (c : Fc w K mg) : ∀ q ∈ c.M.lt, q.1 ≠ c.t_is_expression := fun q hq => by rw [List.mem_singleton.mp hq]; exact c.ne_is_expression
theorem Fc.in_is_all_early (c : Fc w K mg) : c.t_is_all_early ∈ c.M.tb := .tail _ (.tail _ (.tail _ (.head _)))
theorem Fc.nt_is_all_early (c : Fc w K mg) : ∀ q ∈ c.M.lt, q.1 ≠ c.t_is_all_early := fun q hq => by rw [List.mem_singleton.mp hq]; exact c.ne_is_all_early
theorem Fc.in_nodes_of (c : Fc w K mg) : c.t_nodes_of ∈ c.M.tb := .tail _ (.tail _ (.tail _ (.tail _ (.head _))))
theorem Fc.nt_nodes_of (c : Fc w K mg) : ∀ q ∈ c.M.lt, q.1 ≠ c.t_nodes_of := fun q hq => by rw [List.mem_singleton.mp hq]; exact c.ne_nodes_of
theorem Fc.in_is_program (c : Fc w K mg) : c.t_is_program ∈ c.M.tb := .tail _ (.tail _ (.tail _ (.tail _ (.tail _ (.head _)))))
theorem Fc.nt_is_program (c : Fc w K mg) : ∀ q ∈ c.M.lt, q.1 ≠ c.t_is_program := fun q hq => by rw [List.mem_singleton.mp hq]; exact c.ne_is_program
theorem Fc.in_point_of (c : Fc w K mg) : c.t_point_of ∈ c.M.tb := .tail _ (.tail _ (.tail _ (.tail _ (.tail _ (.tail _ (.head _))))))
theorem Fc.nt_point_of (c : Fc w K mg) : ∀ q ∈ c.M.lt, q.1 ≠ c.t_point_of := fun q hq => by rw [List.mem_singleton.mp hq]; exact c.ne_point_of
theorem Fc.in_is_plain_expression (c : Fc w K mg) : c.t_is_plain_expression ∈ c.M.tb := .tail _ (.tail _ (.tail _ (.tail _ (.tail _ (.tail _ (.tail _ (.head _)))))))
theorem Fc.nt_is_plain_expression (c : Fc w K mg) : ∀ q ∈ c.M.lt, q.1 ≠ c.t_is_plain_expression := fun q hq => by rw [List.mem_singleton.mp hq]; exact c.ne_is_plain_expression
theorem Fc.in_is_plain (c : Fc w K mg) : c.t_is_plain ∈ c.M.tb := .tail _ (.tail _ (.tail _ (.tail _ (.tail _ (.tail _ (.tail _ (.tail _ (.head _))))))))
theorem Fc.nt_is_plain (c : Fc w K mg) : ∀ q ∈ c.M.lt, q.1 ≠ c.t_is_plain := fun q hq => by rw [List.mem_singleton.mp hq]; exact c.ne_is_plain
structure Tb (base : Heap) (c : Fc w K mg) : Prop where
  tb_is_name : GxR.TabB base mg c.c_is_name c.t_is_name
  tb_is_test : GxR.TabB base mg c.c_is_test c.t_is_test
  tb_is_expression : GxR.TabB base mg c.c_is_expression c.t_is_expression
  tb_is_all_early : GxR.TabB base mg c.c_is_all_early c.t_is_all_early
  tb_nodes_of : GxR.TabB base mg c.c_nodes_of c.t_nodes_of
  tb_is_program : GxR.TabB base mg c.c_is_program c.t_is_program
  tb_point_of : GxR.TabB base mg c.c_point_of c.t_point_of
  tb_is_plain_expression : GxR.TabB base mg c.c_is_plain_expression c.t_is_plain_expression
  tb_is_plain : GxR.TabB base mg c.c_is_plain c.t_is_plain
  tl : LamX.TabB base mg c.c_law c.tL
structure Gs (P : Program) (base : Heap) (c : Fc w K mg) (n : Nat) (F : Fs) : Prop where
  G_is_in : FnG P w K mg base c.M n c.f_is_in c.fd_is_in ["value", "least", "most"] F.is_in
  G_is_name : FnG P w K mg base c.M n c.f_is_name c.fd_is_name ["value"] F.is_name
  G_is_tuple : FnG P w K mg base c.M n c.f_is_tuple c.fd_is_tuple ["value", "many"] F.is_tuple
  G_is_move : FnG P w K mg base c.M n c.f_is_move c.fd_is_move ["value"] F.is_move
  G_is_test : FnG P w K mg base c.M n c.f_is_test c.fd_is_test ["value", "lates", "deep"] F.is_test
  G_is_expression : FnG P w K mg base c.M n c.f_is_expression c.fd_is_expression ["value", "lates", "deep"] F.is_expression
  G_parts_of : FnG P w K mg base c.M n c.f_parts_of c.fd_parts_of ["one"] F.parts_of
  G_is_all_early : FnG P w K mg base c.M n c.f_is_all_early c.fd_is_all_early ["one"] F.is_all_early
  G_nodes_of : FnG P w K mg base c.M n c.f_nodes_of c.fd_nodes_of ["one"] F.nodes_of
  G_calls_of : FnG P w K mg base c.M n c.f_calls_of c.fd_calls_of ["one"] F.calls_of
  G_is_function : FnG P w K mg base c.M n c.f_is_function c.fd_is_function ["value"] F.is_function
  G_is_program : FnG P w K mg base c.M n c.f_is_program c.fd_is_program ["value"] F.is_program
  G_need_program : FnG P w K mg base c.M n c.f_need_program c.fd_need_program ["program"] F.need_program
  G_point_of : FnG P w K mg base c.M n c.f_point_of c.fd_point_of ["name"] F.point_of
  G_is_plain_expression : FnG P w K mg base c.M n c.f_is_plain_expression c.fd_is_plain_expression ["value", "lates", "deep"] F.is_plain_expression
  G_is_plain_function : FnG P w K mg base c.M n c.f_is_plain_function c.fd_is_plain_function ["value"] F.is_plain_function
  G_is_plain : FnG P w K mg base c.M n c.f_is_plain c.fd_is_plain ["value"] F.is_plain
  G_need_plain : FnG P w K mg base c.M n c.f_need_plain c.fd_need_plain ["plain"] F.need_plain
  G_row_end : FnG P w K mg base c.M n c.f_row_end c.fd_row_end ["text", "at", "signs"] F.row_end
  G_words_of : FnG P w K mg base c.M n c.f_words_of c.fd_words_of ["text", "is_staged"] F.words_of
  G_m_init : FnG P w K mg base c.M n c.f_m_init c.fd_m_init ["self", "words", "is_staged"] F.m_init
  G_m_look : FnG P w K mg base c.M n c.f_m_look c.fd_m_look ["self"] F.m_look
  G_m_next : FnG P w K mg base c.M n c.f_m_next c.fd_m_next ["self"] F.m_next
  G_m_need : FnG P w K mg base c.M n c.f_m_need c.fd_m_need ["self", "word"] F.m_need
  G_m_number : FnG P w K mg base c.M n c.f_m_number c.fd_m_number ["self"] F.m_number
  G_m_move : FnG P w K mg base c.M n c.f_m_move c.fd_m_move ["self"] F.m_move
  G_m_some : FnG P w K mg base c.M n c.f_m_some c.fd_m_some ["self", "deep"] F.m_some
  G_m_call : FnG P w K mg base c.M n c.f_m_call c.fd_m_call ["self", "name", "deep"] F.m_call
  G_m_test : FnG P w K mg base c.M n c.f_m_test c.fd_m_test ["self", "deep"] F.m_test
  G_m_inside : FnG P w K mg base c.M n c.f_m_inside c.fd_m_inside ["self", "deep"] F.m_inside
  G_m_expression : FnG P w K mg base c.M n c.f_m_expression c.fd_m_expression ["self", "deep"] F.m_expression
  G_m_function : FnG P w K mg base c.M n c.f_m_function c.fd_m_function ["self"] F.m_function
  G_m_letters : FnG P w K mg base c.M n c.f_m_letters c.fd_m_letters ["self"] F.m_letters
  G_m_functions : FnG P w K mg base c.M n c.f_m_functions c.fd_m_functions ["self"] F.m_functions
  G_read_program : FnG P w K mg base c.M n c.f_read_program c.fd_read_program ["text"] F.read_program
  G_read_plain : FnG P w K mg base c.M n c.f_read_plain c.fd_read_plain ["text"] F.read_plain
  G_write_move : FnG P w K mg base c.M n c.f_write_move c.fd_write_move ["move"] F.write_move
  G_write_test : FnG P w K mg base c.M n c.f_write_test c.fd_write_test ["test"] F.write_test
  G_write_call : FnG P w K mg base c.M n c.f_write_call c.fd_write_call ["one"] F.write_call
  G_write_one : FnG P w K mg base c.M n c.f_write_one c.fd_write_one ["one"] F.write_one
  G_write_program : FnG P w K mg base c.M n c.f_write_program c.fd_write_program ["program"] F.write_program
  G_write_plain : FnG P w K mg base c.M n c.f_write_plain c.fd_write_plain ["plain"] F.write_plain
  G__law_taken : FnG P w K mg base c.M n c.f__law_taken c.fd__law_taken ["_law_row", "_law_many"] F._law_taken
  G__law_pick : FnG P w K mg base c.M n c.f__law_pick c.fd__law_pick ["_law_row", "_law_things"] F._law_pick
end
end Kv

/-! Printed by pr.py: each def computes what its function says. -/
namespace Kv
open PySem PySem.Spec PyProof.Rows L2 GenW
section
variable {P : Program} {w : World} {K : PySem.W.Frag} {mg : Str → Option Value} {base : Heap}
theorem sc_is_in : FnScope ["value", "least", "most"] ["value", "least", "most"] (defScope (top 19)) := ⟨rfl, rfl, rfl, by decide +kernel, rfl, by decide +kernel, by decide +kernel⟩
theorem bn_is_in (c : Fc w K mg) : Binds K c.fd_is_in ["value", "least", "most"] [] := c.F_is_in.binds fun _ _ _ _ _ _ us hl => match us, hl with | [_, _, _], _ => rfl
theorem dv_is_in (c : Fc w K mg) {n : Nat} {F : Fs} (G : Gs P base c n F) {A : Around} {outer : List Env} {s : Shared} {H : Hp} {E : XK} (hr : Room (n + 1) (A.deeper (envOfC "is_in" (defScope (top 19)) s.heap.objs.size c.f_is_in (.ref c.c_is_in)))) :
    SSs (cxOf (L2.CX P w) P w K mg base ["value", "least", "most"] "is_in" (defScope (top 19)) c.f_is_in (.ref c.c_is_in) A outer s H E) c.M E (defBody (top 19)) (b_is_in F) :=
  have cx : CtxOk (cxOf (L2.CX P w) P w K mg base ["value", "least", "most"] "is_in" (defScope (top 19)) c.f_is_in (.ref c.c_is_in) A outer s H E) E := ctx_of sc_is_in.nd hr
  have ce := cx.e
  have hr0 := hr.mono (Nat.le_succ n)
  (sss_one (ss_ret (se_and (se_isi Ty.int rfl c.b_isinstance rfl c.b_int (by decide +kernel) (se_var 0)) (se_and (se_not (se_isi Ty.bool rfl c.b_isinstance rfl c.b_bool (by decide +kernel) (se_var 0))) (se_one (se_chainLe (se_var 1) (se_var 0) (se_var 2)))))))
theorem up_is_in (c : Fc w K mg) {n : Nat} {F : Fs} (G : Gs P base c n F) : FnG P w K mg base c.M (n + 2) c.f_is_in c.fd_is_in ["value", "least", "most"] (fsUp F).is_in := fnG_mk c.F_is_in sc_is_in (bn_is_in c) rfl (fun A outer s H E hr => dv_is_in c G hr)
theorem sc_is_name : FnScope ["value", "letter"] ["value"] (defScope (top 20)) := ⟨rfl, rfl, rfl, by decide +kernel, rfl, by decide +kernel, by decide +kernel⟩
theorem bn_is_name (c : Fc w K mg) : Binds K c.fd_is_name ["value"] [] := c.F_is_name.binds fun _ _ _ _ _ _ us hl => match us, hl with | [_], _ => rfl
theorem dv_is_name (c : Fc w K mg) (TB : Tb base c) {n : Nat} {F : Fs} (G : Gs P base c n F) {A : Around} {outer : List Env} {s : Shared} {H : Hp} {E : XK} (hr : Room (n + 1) (A.deeper (envOfC "is_name" (defScope (top 20)) s.heap.objs.size c.f_is_name (.ref c.c_is_name)))) :
    SSs (cxOf (L2.CX P w) P w K mg base ["value", "letter"] "is_name" (defScope (top 20)) c.f_is_name (.ref c.c_is_name) A outer s H E) c.M E (defBody (top 20)) (b_is_name F) :=
  have cx : CtxOk (cxOf (L2.CX P w) P w K mg base ["value", "letter"] "is_name" (defScope (top 20)) c.f_is_name (.ref c.c_is_name) A outer s H E) E := ctx_of sc_is_name.nd hr
  have ce := cx.e
  have hr0 := hr.mono (Nat.le_succ n)
  (sss_cons (ss_if (SW.st (sw_or (st_not (st_val (se_isi Ty.str rfl c.b_isinstance rfl c.b_str (by decide +kernel) (se_var 0)))) (sw_or (st_not (st_chainLe se_int (se_callB call_len ok_len rfl c.b_len PySem.boot_len (sa_cons (se_var 0) sa_nil)) (se_glob rfl c.mg_MOST_LETTERS c.gi_MOST_LETTERS))) (sw_or1 (st_inL  (se_var 0) (se_glob rfl c.mg_TAKEN c.gi_TAKEN)))))) (sss_one (ss_ret se_bl)) sss_nil)
    (sss_one (ss_ret (se_all (own := [("letter", 1)]) (vs := [1]) 10000 ce hr rfl c.b_all (by decide +kernel) TB.tb_is_name rfl c.in_is_name c.nt_is_name (by exact (show BlkOk ["value", "letter"] (defScope (top 20)) _ _ from ⟨rfl, by decide +kernel, by decide +kernel, by decide +kernel, by decide +kernel⟩)) rfl rfl (by decide +kernel) (by first | rfl | decide +kernel) (si_str (se_var 0)) (fun _ _ _ _ _ _ => (sg_name 1 ce.nd)) (fun _ _ _ _ _ _ hr1 => (se_inS  (se_var 1) (se_glob rfl c.mg_LETTERS c.gi_LETTERS))) (fun _ => rfl)))))
theorem up_is_name (c : Fc w K mg) (TB : Tb base c) {n : Nat} {F : Fs} (G : Gs P base c n F) : FnG P w K mg base c.M (n + 2) c.f_is_name c.fd_is_name ["value"] (fsUp F).is_name := fnG_mk c.F_is_name sc_is_name (bn_is_name c) rfl (fun A outer s H E hr => dv_is_name c TB G hr)
theorem sc_is_tuple : FnScope ["value", "many"] ["value", "many"] (defScope (top 21)) := ⟨rfl, rfl, rfl, by decide +kernel, rfl, by decide +kernel, by decide +kernel⟩
theorem bn_is_tuple (c : Fc w K mg) : Binds K c.fd_is_tuple ["value", "many"] [] := c.F_is_tuple.binds fun _ _ _ _ _ _ us hl => match us, hl with | [_, _], _ => rfl
theorem dv_is_tuple (c : Fc w K mg) {n : Nat} {F : Fs} (G : Gs P base c n F) {A : Around} {outer : List Env} {s : Shared} {H : Hp} {E : XK} (hr : Room (n + 1) (A.deeper (envOfC "is_tuple" (defScope (top 21)) s.heap.objs.size c.f_is_tuple (.ref c.c_is_tuple)))) :
    SSs (cxOf (L2.CX P w) P w K mg base ["value", "many"] "is_tuple" (defScope (top 21)) c.f_is_tuple (.ref c.c_is_tuple) A outer s H E) c.M E (defBody (top 21)) (b_is_tuple F) :=
  have cx : CtxOk (cxOf (L2.CX P w) P w K mg base ["value", "many"] "is_tuple" (defScope (top 21)) c.f_is_tuple (.ref c.c_is_tuple) A outer s H E) E := ctx_of sc_is_tuple.nd hr
  have ce := cx.e
  have hr0 := hr.mono (Nat.le_succ n)
  (sss_one (ss_ret (se_and (se_isi Ty.tuple rfl c.b_isinstance rfl c.b_tuple (by decide +kernel) (se_var 0)) (se_and (se_eq  (se_callB call_len ok_len rfl c.b_len PySem.boot_len (sa_cons (se_var 0) sa_nil)) (se_var 1)) (se_one (se_isi Ty.str rfl c.b_isinstance rfl c.b_str (by decide +kernel) (se_ixT (se_var 0) se_int)))))))
theorem up_is_tuple (c : Fc w K mg) {n : Nat} {F : Fs} (G : Gs P base c n F) : FnG P w K mg base c.M (n + 2) c.f_is_tuple c.fd_is_tuple ["value", "many"] (fsUp F).is_tuple := fnG_mk c.F_is_tuple sc_is_tuple (bn_is_tuple c) rfl (fun A outer s H E hr => dv_is_tuple c G hr)
theorem sc_is_move : FnScope ["value"] ["value"] (defScope (top 22)) := ⟨rfl, rfl, rfl, by decide +kernel, rfl, by decide +kernel, by decide +kernel⟩
theorem bn_is_move (c : Fc w K mg) : Binds K c.fd_is_move ["value"] [] := c.F_is_move.binds fun _ _ _ _ _ _ us hl => match us, hl with | [_], _ => rfl
theorem dv_is_move (c : Fc w K mg) {n : Nat} {F : Fs} (G : Gs P base c n F) {A : Around} {outer : List Env} {s : Shared} {H : Hp} {E : XK} (hr : Room (n + 1) (A.deeper (envOfC "is_move" (defScope (top 22)) s.heap.objs.size c.f_is_move (.ref c.c_is_move)))) :
    SSs (cxOf (L2.CX P w) P w K mg base ["value"] "is_move" (defScope (top 22)) c.f_is_move (.ref c.c_is_move) A outer s H E) c.M E (defBody (top 22)) (b_is_move F) :=
  have cx : CtxOk (cxOf (L2.CX P w) P w K mg base ["value"] "is_move" (defScope (top 22)) c.f_is_move (.ref c.c_is_move) A outer s H E) E := ctx_of sc_is_move.nd hr
  have ce := cx.e
  have hr0 := hr.mono (Nat.le_succ n)
  (sss_cons (ss_if (st_not (st_val (se_call ce hr0 G.G_is_tuple rfl c.g_is_tuple (sa_cons (se_var 0) (sa_cons se_int sa_nil))))) (sss_one (ss_ret se_bl)) sss_nil)
    (sss_cons (ss_if (st_eq  (se_ixT (se_var 0) se_int) (se_str [103, 105, 118, 101] rfl)) (sss_one (ss_ret (se_call ce hr0 G.G_is_in rfl c.g_is_in (sa_cons (se_ixT (se_var 0) se_int) (sa_cons se_int (sa_cons (se_glob rfl c.mg_MOST_GIVEN c.gi_MOST_GIVEN) sa_nil)))))) sss_nil)
    (sss_one (ss_ret (se_and (se_eq  (se_ixT (se_var 0) se_int) (se_str [109, 111, 118, 101] rfl)) (se_one (se_call ce hr0 G.G_is_in rfl c.g_is_in (sa_cons (se_ixT (se_var 0) se_int) (sa_cons (se_sub se_int (se_glob rfl c.mg_MOST_MOVE c.gi_MOST_MOVE)) (sa_cons (se_glob rfl c.mg_MOST_MOVE c.gi_MOST_MOVE) sa_nil))))))))))
theorem up_is_move (c : Fc w K mg) {n : Nat} {F : Fs} (G : Gs P base c n F) : FnG P w K mg base c.M (n + 2) c.f_is_move c.fd_is_move ["value"] (fsUp F).is_move := fnG_mk c.F_is_move sc_is_move (bn_is_move c) rfl (fun A outer s H E hr => dv_is_move c G hr)
theorem sc_is_test : FnScope ["value", "lates", "deep", "one"] ["value", "lates", "deep"] (defScope (top 23)) := ⟨rfl, rfl, rfl, by decide +kernel, rfl, by decide +kernel, by decide +kernel⟩
theorem bn_is_test (c : Fc w K mg) : Binds K c.fd_is_test ["value", "lates", "deep"] [] := c.F_is_test.binds fun _ _ _ _ _ _ us hl => match us, hl with | [_, _, _], _ => rfl
theorem dv_is_test (c : Fc w K mg) (TB : Tb base c) {n : Nat} {F : Fs} (G : Gs P base c n F) {A : Around} {outer : List Env} {s : Shared} {H : Hp} {E : XK} (hr : Room (n + 1) (A.deeper (envOfC "is_test" (defScope (top 23)) s.heap.objs.size c.f_is_test (.ref c.c_is_test)))) :
    SSs (cxOf (L2.CX P w) P w K mg base ["value", "lates", "deep", "one"] "is_test" (defScope (top 23)) c.f_is_test (.ref c.c_is_test) A outer s H E) c.M E (defBody (top 23)) (b_is_test F) :=
  have cx : CtxOk (cxOf (L2.CX P w) P w K mg base ["value", "lates", "deep", "one"] "is_test" (defScope (top 23)) c.f_is_test (.ref c.c_is_test) A outer s H E) E := ctx_of sc_is_test.nd hr
  have ce := cx.e
  have hr0 := hr.mono (Nat.le_succ n)
  (sss_cons (ss_if (st_eq  (se_var 2) se_int) (sss_one (ss_ret se_bl)) sss_nil)
    (sss_cons (ss_if (st_val (se_call ce hr0 G.G_is_tuple rfl c.g_is_tuple (sa_cons (se_var 0) (sa_cons se_int sa_nil)))) (sss_one (ss_ret (se_and (se_eq  (se_ixT (se_var 0) se_int) (se_str [98, 101, 108, 111, 119] rfl)) (se_one (se_call ce hr0 G.G_is_in rfl c.g_is_in (sa_cons (se_ixT (se_var 0) se_int) (sa_cons se_int (sa_cons (se_glob rfl c.mg_MOST_GIVEN c.gi_MOST_GIVEN) sa_nil)))))))) sss_nil)
    (sss_cons (ss_if (st_not (st_val (se_call ce hr0 G.G_is_tuple rfl c.g_is_tuple (sa_cons (se_var 0) (sa_cons se_int sa_nil))))) (sss_one (ss_ret se_bl)) sss_nil)
    (sss_cons (ss_if (st_eq  (se_ixT (se_var 0) se_int) (se_str [114, 101, 115, 116] rfl)) (sss_one (ss_ret (se_and (se_call ce hr0 G.G_is_in rfl c.g_is_in (sa_cons (se_ixT (se_var 0) se_int) (sa_cons se_int (sa_cons (se_glob rfl c.mg_MOST_REST c.gi_MOST_REST) sa_nil)))) (se_one (se_call ce hr0 G.G_is_in rfl c.g_is_in (sa_cons (se_ixT (se_var 0) se_int) (sa_cons se_int (sa_cons (se_sub (se_ixT (se_var 0) se_int) se_int) sa_nil)))))))) sss_nil)
    (sss_cons (ss_if (SW.st (sw_or (st_ne  (se_ixT (se_var 0) se_int) (se_str [108, 101, 115, 115] rfl)) (sw_or1 (st_not (st_val (se_all (own := [("one", 3)]) (vs := [3]) 10000 ce hr rfl c.b_all (by decide +kernel) TB.tb_is_test rfl c.in_is_test c.nt_is_test (by exact (show BlkOk ["value", "lates", "deep", "one"] (defScope (top 23)) _ _ from ⟨rfl, by decide +kernel, by decide +kernel, by decide +kernel, by decide +kernel⟩)) rfl rfl (by decide +kernel) (by first | rfl | decide +kernel) (si_tup (se_slT (k := 1) (se_var 0))) (fun _ _ _ _ _ _ => (sg_name 3 ce.nd)) (fun _ _ _ _ _ _ hr1 => (se_call (CtxE.gen ce hr1) hr1 G.G_is_expression rfl c.g_is_expression (sa_cons (se_var 3) (sa_cons (se_var 1) (sa_cons (se_sub (se_var 2) se_int) sa_nil))))) (fun _ => rfl))))))) (sss_one (ss_ret se_bl)) sss_nil)
    (sss_one (ss_ret (se_not (se_all (own := [("one", 3)]) (vs := [3]) 10000 ce hr rfl c.b_all (by decide +kernel) TB.tb_is_test rfl c.in_is_test c.nt_is_test (by exact (show BlkOk ["value", "lates", "deep", "one"] (defScope (top 23)) _ _ from ⟨rfl, by decide +kernel, by decide +kernel, by decide +kernel, by decide +kernel⟩)) rfl rfl (by decide +kernel) (by first | rfl | decide +kernel) (si_tup (se_slT (k := 1) (se_var 0))) (fun _ _ _ _ _ _ => (sg_name 3 ce.nd)) (fun _ _ _ _ _ _ hr1 => (se_call (CtxE.gen ce hr1) hr1 G.G_is_all_early rfl c.g_is_all_early (sa_cons (se_var 3) sa_nil))) (fun _ => rfl))))))))))
theorem up_is_test (c : Fc w K mg) (TB : Tb base c) {n : Nat} {F : Fs} (G : Gs P base c n F) : FnG P w K mg base c.M (n + 2) c.f_is_test c.fd_is_test ["value", "lates", "deep"] (fsUp F).is_test := fnG_mk c.F_is_test sc_is_test (bn_is_test c) rfl (fun A outer s H E hr => dv_is_test c TB G hr)
theorem sc_is_expression : FnScope ["value", "lates", "deep", "one"] ["value", "lates", "deep"] (defScope (top 24)) := ⟨rfl, rfl, rfl, by decide +kernel, rfl, by decide +kernel, by decide +kernel⟩
theorem bn_is_expression (c : Fc w K mg) : Binds K c.fd_is_expression ["value", "lates", "deep"] [] := c.F_is_expression.binds fun _ _ _ _ _ _ us hl => match us, hl with | [_, _, _], _ => rfl
theorem dv_is_expression (c : Fc w K mg) (TB : Tb base c) {n : Nat} {F : Fs} (G : Gs P base c n F) {A : Around} {outer : List Env} {s : Shared} {H : Hp} {E : XK} (hr : Room (n + 1) (A.deeper (envOfC "is_expression" (defScope (top 24)) s.heap.objs.size c.f_is_expression (.ref c.c_is_expression)))) :
    SSs (cxOf (L2.CX P w) P w K mg base ["value", "lates", "deep", "one"] "is_expression" (defScope (top 24)) c.f_is_expression (.ref c.c_is_expression) A outer s H E) c.M E (defBody (top 24)) (b_is_expression F) :=
  have cx : CtxOk (cxOf (L2.CX P w) P w K mg base ["value", "lates", "deep", "one"] "is_expression" (defScope (top 24)) c.f_is_expression (.ref c.c_is_expression) A outer s H E) E := ctx_of sc_is_expression.nd hr
  have ce := cx.e
  have hr0 := hr.mono (Nat.le_succ n)
  (sss_cons (ss_if (st_eq  (se_var 2) se_int) (sss_one (ss_ret se_bl)) sss_nil)
    (sss_cons (ss_if (st_val (se_call ce hr0 G.G_is_tuple rfl c.g_is_tuple (sa_cons (se_var 0) (sa_cons se_int sa_nil)))) (sss_one (ss_ret (se_eq  (se_ixT (se_var 0) se_int) (se_str [101, 97, 114, 108, 121] rfl)))) sss_nil)
    (sss_cons (ss_if (st_val (se_call ce hr0 G.G_is_tuple rfl c.g_is_tuple (sa_cons (se_var 0) (sa_cons se_int sa_nil)))) (sss_cons (ss_if (st_eq  (se_ixT (se_var 0) se_int) (se_str [110, 117, 109, 98, 101, 114] rfl)) (sss_one (ss_ret (se_call ce hr0 G.G_is_in rfl c.g_is_in (sa_cons (se_ixT (se_var 0) se_int) (sa_cons se_int (sa_cons (se_glob rfl c.mg_MOST_NUMBER c.gi_MOST_NUMBER) sa_nil)))))) sss_nil)
    (sss_one (ss_ret (se_and (se_eq  (se_ixT (se_var 0) se_int) (se_str [108, 97, 116, 101] rfl)) (se_one (se_call ce hr0 G.G_is_in rfl c.g_is_in (sa_cons (se_ixT (se_var 0) se_int) (sa_cons se_int (sa_cons (se_sub (se_var 1) se_int) sa_nil))))))))) sss_nil)
    (sss_cons (ss_if (st_val (se_call ce hr0 G.G_is_tuple rfl c.g_is_tuple (sa_cons (se_var 0) (sa_cons se_int sa_nil)))) (sss_one (ss_ret (se_and (se_inL  (se_ixT (se_var 0) se_int) (se_glob rfl c.mg_PAIRS c.gi_PAIRS)) (se_one (se_all (own := [("one", 3)]) (vs := [3]) 10000 ce hr rfl c.b_all (by decide +kernel) TB.tb_is_expression rfl c.in_is_expression c.nt_is_expression (by exact (show BlkOk ["value", "lates", "deep", "one"] (defScope (top 24)) _ _ from ⟨rfl, by decide +kernel, by decide +kernel, by decide +kernel, by decide +kernel⟩)) rfl rfl (by decide +kernel) (by first | rfl | decide +kernel) (si_tup (se_slT (k := 1) (se_var 0))) (fun _ _ _ _ _ _ => (sg_name 3 ce.nd)) (fun _ _ _ _ _ _ hr1 => (se_call (CtxE.gen ce hr1) hr1 G.G_is_expression rfl c.g_is_expression (sa_cons (se_var 3) (sa_cons (se_var 1) (sa_cons (se_sub (se_var 2) se_int) sa_nil))))) (fun _ => rfl)))))) sss_nil)
    (sss_cons (ss_if (st_not (st_val (se_call ce hr0 G.G_is_tuple rfl c.g_is_tuple (sa_cons (se_var 0) (sa_cons se_int sa_nil))))) (sss_one (ss_ret se_bl)) sss_nil)
    (sss_cons (ss_if (st_eq  (se_ixT (se_var 0) se_int) (se_str [105, 102] rfl)) (sss_cons (ss_if (st_not (st_val (se_call ce hr0 G.G_is_test rfl c.g_is_test (sa_cons (se_ixT (se_var 0) se_int) (sa_cons (se_var 1) (sa_cons (se_sub (se_var 2) se_int) sa_nil)))))) (sss_one (ss_ret se_bl)) sss_nil)
    (sss_one (ss_ret (se_all (own := [("one", 3)]) (vs := [3]) 10000 ce hr rfl c.b_all (by decide +kernel) TB.tb_is_expression rfl c.in_is_expression c.nt_is_expression (by exact (show BlkOk ["value", "lates", "deep", "one"] (defScope (top 24)) _ _ from ⟨rfl, by decide +kernel, by decide +kernel, by decide +kernel, by decide +kernel⟩)) rfl rfl (by decide +kernel) (by first | rfl | decide +kernel) (si_tup (se_slT (k := 2) (se_var 0))) (fun _ _ _ _ _ _ => (sg_name 3 ce.nd)) (fun _ _ _ _ _ _ hr1 => (se_call (CtxE.gen ce hr1) hr1 G.G_is_expression rfl c.g_is_expression (sa_cons (se_var 3) (sa_cons (se_var 1) (sa_cons (se_sub (se_var 2) se_int) sa_nil))))) (fun _ => rfl))))) sss_nil)
    (sss_cons (ss_if (SW.st (sw_or (st_ne  (se_ixT (se_var 0) se_int) (se_str [99, 97, 108, 108] rfl)) (sw_or (st_not (st_val (se_call ce hr0 G.G_is_name rfl c.g_is_name (sa_cons (se_ixT (se_var 0) se_int) sa_nil)))) (sw_or (st_not (st_val (se_call ce hr0 G.G_is_move rfl c.g_is_move (sa_cons (se_ixT (se_var 0) se_int) sa_nil)))) (sw_or1 (st_not (st_val (se_isi Ty.tuple rfl c.b_isinstance rfl c.b_tuple (by decide +kernel) (se_ixT (se_var 0) se_int))))))))) (sss_one (ss_ret se_bl)) sss_nil)
    (sss_one (ss_ret (se_and (se_le  (se_callB call_len ok_len rfl c.b_len PySem.boot_len (sa_cons (se_ixT (se_var 0) se_int) sa_nil)) (se_glob rfl c.mg_MOST_LATES c.gi_MOST_LATES)) (se_one (se_all (own := [("one", 3)]) (vs := [3]) 10000 ce hr rfl c.b_all (by decide +kernel) TB.tb_is_expression rfl c.in_is_expression c.nt_is_expression (by exact (show BlkOk ["value", "lates", "deep", "one"] (defScope (top 24)) _ _ from ⟨rfl, by decide +kernel, by decide +kernel, by decide +kernel, by decide +kernel⟩)) rfl rfl (by decide +kernel) (by first | rfl | decide +kernel) (si_tup (se_ixT (se_var 0) se_int)) (fun _ _ _ _ _ _ => (sg_name 3 ce.nd)) (fun _ _ _ _ _ _ hr1 => (se_call (CtxE.gen ce hr1) hr1 G.G_is_expression rfl c.g_is_expression (sa_cons (se_var 3) (sa_cons (se_var 1) (sa_cons (se_sub (se_var 2) se_int) sa_nil))))) (fun _ => rfl)))))))))))))
theorem up_is_expression (c : Fc w K mg) (TB : Tb base c) {n : Nat} {F : Fs} (G : Gs P base c n F) : FnG P w K mg base c.M (n + 2) c.f_is_expression c.fd_is_expression ["value", "lates", "deep"] (fsUp F).is_expression := (fnG_mk c.F_is_expression sc_is_expression (bn_is_expression c) rfl (fun A outer s H E hr => dv_is_expression c TB G hr)).cutF
theorem sc_parts_of : FnScope ["one"] ["one"] (defScope (top 25)) := ⟨rfl, rfl, rfl, by decide +kernel, rfl, by decide +kernel, by decide +kernel⟩
theorem bn_parts_of (c : Fc w K mg) : Binds K c.fd_parts_of ["one"] [] := c.F_parts_of.binds fun _ _ _ _ _ _ us hl => match us, hl with | [_], _ => rfl
theorem dv_parts_of (c : Fc w K mg) {n : Nat} {F : Fs} (G : Gs P base c n F) {A : Around} {outer : List Env} {s : Shared} {H : Hp} {E : XK} (hr : Room (n + 1) (A.deeper (envOfC "parts_of" (defScope (top 25)) s.heap.objs.size c.f_parts_of (.ref c.c_parts_of)))) :
    SSs (cxOf (L2.CX P w) P w K mg base ["one"] "parts_of" (defScope (top 25)) c.f_parts_of (.ref c.c_parts_of) A outer s H E) c.M E (defBody (top 25)) (b_parts_of F) :=
  have cx : CtxOk (cxOf (L2.CX P w) P w K mg base ["one"] "parts_of" (defScope (top 25)) c.f_parts_of (.ref c.c_parts_of) A outer s H E) E := ctx_of sc_parts_of.nd hr
  have ce := cx.e
  have hr0 := hr.mono (Nat.le_succ n)
  (sss_cons (ss_if (st_inL  (se_ixT (se_var 0) se_int) (se_lst (sa_cons (se_str [110, 117, 109, 98, 101, 114] rfl) (sa_cons (se_str [101, 97, 114, 108, 121] rfl) (sa_cons (se_str [108, 97, 116, 101] rfl) (sa_cons (se_str [98, 101, 108, 111, 119] rfl) (sa_cons (se_str [114, 101, 115, 116] rfl) sa_nil))))))) (sss_one (ss_ret (se_lst sa_nil))) sss_nil)
    (sss_cons (ss_if (st_eq  (se_ixT (se_var 0) se_int) (se_str [99, 97, 108, 108] rfl)) (sss_one (ss_ret (se_callTy call_list_of ok_list rfl c.b_list (by decide +kernel) (sa_cons (se_ixT (se_var 0) (se_neg se_int)) sa_nil)))) sss_nil)
    (sss_one (ss_ret (se_callTy call_list_of ok_list rfl c.b_list (by decide +kernel) (sa_cons (se_slT (k := 1) (se_var 0)) sa_nil))))))
theorem up_parts_of (c : Fc w K mg) {n : Nat} {F : Fs} (G : Gs P base c n F) : FnG P w K mg base c.M (n + 2) c.f_parts_of c.fd_parts_of ["one"] (fsUp F).parts_of := fnG_mk c.F_parts_of sc_parts_of (bn_parts_of c) rfl (fun A outer s H E hr => dv_parts_of c G hr)
theorem sc_is_all_early : FnScope ["one", "part"] ["one"] (defScope (top 26)) := ⟨rfl, rfl, rfl, by decide +kernel, rfl, by decide +kernel, by decide +kernel⟩
theorem bn_is_all_early (c : Fc w K mg) : Binds K c.fd_is_all_early ["one"] [] := c.F_is_all_early.binds fun _ _ _ _ _ _ us hl => match us, hl with | [_], _ => rfl
theorem dv_is_all_early (c : Fc w K mg) (TB : Tb base c) {n : Nat} {F : Fs} (G : Gs P base c n F) {A : Around} {outer : List Env} {s : Shared} {H : Hp} {E : XK} (hr : Room (n + 1) (A.deeper (envOfC "is_all_early" (defScope (top 26)) s.heap.objs.size c.f_is_all_early (.ref c.c_is_all_early)))) :
    SSs (cxOf (L2.CX P w) P w K mg base ["one", "part"] "is_all_early" (defScope (top 26)) c.f_is_all_early (.ref c.c_is_all_early) A outer s H E) c.M E (defBody (top 26)) (b_is_all_early F) :=
  have cx : CtxOk (cxOf (L2.CX P w) P w K mg base ["one", "part"] "is_all_early" (defScope (top 26)) c.f_is_all_early (.ref c.c_is_all_early) A outer s H E) E := ctx_of sc_is_all_early.nd hr
  have ce := cx.e
  have hr0 := hr.mono (Nat.le_succ n)
  (sss_one (ss_ret (se_and (se_ninL  (se_ixT (se_var 0) se_int) (se_lst (sa_cons (se_str [108, 97, 116, 101] rfl) (sa_cons (se_str [99, 97, 108, 108] rfl) sa_nil)))) (se_one (se_all (own := [("part", 1)]) (vs := [1]) 10000 ce hr rfl c.b_all (by decide +kernel) TB.tb_is_all_early rfl c.in_is_all_early c.nt_is_all_early (by exact (show BlkOk ["one", "part"] (defScope (top 26)) _ _ from ⟨rfl, by decide +kernel, by decide +kernel, by decide +kernel, by decide +kernel⟩)) rfl rfl (by decide +kernel) (by first | rfl | decide +kernel) (si_lst (se_call ce hr0 G.G_parts_of rfl c.g_parts_of (sa_cons (se_var 0) sa_nil))) (fun _ _ _ _ _ _ => (sg_name 1 ce.nd)) (fun _ _ _ _ _ _ hr1 => (se_call (CtxE.gen ce hr1) hr1 G.G_is_all_early rfl c.g_is_all_early (sa_cons (se_var 1) sa_nil))) (fun _ => rfl))))))
theorem up_is_all_early (c : Fc w K mg) (TB : Tb base c) {n : Nat} {F : Fs} (G : Gs P base c n F) : FnG P w K mg base c.M (n + 2) c.f_is_all_early c.fd_is_all_early ["one"] (fsUp F).is_all_early := fnG_mk c.F_is_all_early sc_is_all_early (bn_is_all_early c) rfl (fun A outer s H E hr => dv_is_all_early c TB G hr)
theorem sc_nodes_of : FnScope ["one", "part"] ["one"] (defScope (top 27)) := ⟨rfl, rfl, rfl, by decide +kernel, rfl, by decide +kernel, by decide +kernel⟩
theorem bn_nodes_of (c : Fc w K mg) : Binds K c.fd_nodes_of ["one"] [] := c.F_nodes_of.binds fun _ _ _ _ _ _ us hl => match us, hl with | [_], _ => rfl
theorem dv_nodes_of (c : Fc w K mg) (TB : Tb base c) {n : Nat} {F : Fs} (G : Gs P base c n F) {A : Around} {outer : List Env} {s : Shared} {H : Hp} {E : XK} (hr : Room (n + 1) (A.deeper (envOfC "nodes_of" (defScope (top 27)) s.heap.objs.size c.f_nodes_of (.ref c.c_nodes_of)))) :
    SSs (cxOf (L2.CX P w) P w K mg base ["one", "part"] "nodes_of" (defScope (top 27)) c.f_nodes_of (.ref c.c_nodes_of) A outer s H E) c.M E (defBody (top 27)) (b_nodes_of F) :=
  have cx : CtxOk (cxOf (L2.CX P w) P w K mg base ["one", "part"] "nodes_of" (defScope (top 27)) c.f_nodes_of (.ref c.c_nodes_of) A outer s H E) E := ctx_of sc_nodes_of.nd hr
  have ce := cx.e
  have hr0 := hr.mono (Nat.le_succ n)
  (sss_one (ss_ret (se_add se_int (se_sum (own := [("part", 1)]) (vs := [1]) 10000 ce hr rfl c.b_sum (by decide +kernel) TB.tb_nodes_of rfl c.in_nodes_of c.nt_nodes_of (by exact (show BlkOk ["one", "part"] (defScope (top 27)) _ _ from ⟨rfl, by decide +kernel, by decide +kernel, by decide +kernel, by decide +kernel⟩)) rfl rfl (by decide +kernel) (by first | rfl | decide +kernel) (si_lst (se_call ce hr0 G.G_parts_of rfl c.g_parts_of (sa_cons (se_var 0) sa_nil))) (fun _ _ _ _ _ _ => (sg_name 1 ce.nd)) (fun _ _ _ _ _ _ hr1 => (se_call (CtxE.gen ce hr1) hr1 G.G_nodes_of rfl c.g_nodes_of (sa_cons (se_var 1) sa_nil))) (fun _ => rfl)))))
theorem up_nodes_of (c : Fc w K mg) (TB : Tb base c) {n : Nat} {F : Fs} (G : Gs P base c n F) : FnG P w K mg base c.M (n + 2) c.f_nodes_of c.fd_nodes_of ["one"] (fsUp F).nodes_of := fnG_mk c.F_nodes_of sc_nodes_of (bn_nodes_of c) rfl (fun A outer s H E hr => dv_nodes_of c TB G hr)
theorem sc_calls_of : FnScope ["one", "found", "part"] ["one"] (defScope (top 28)) := ⟨rfl, rfl, rfl, by decide +kernel, rfl, by decide +kernel, by decide +kernel⟩
theorem bn_calls_of (c : Fc w K mg) : Binds K c.fd_calls_of ["one"] [] := c.F_calls_of.binds fun _ _ _ _ _ _ us hl => match us, hl with | [_], _ => rfl
theorem dv_calls_of (c : Fc w K mg) {n : Nat} {F : Fs} (G : Gs P base c n F) {A : Around} {outer : List Env} {s : Shared} {H : Hp} {E : XK} (hr : Room (n + 1) (A.deeper (envOfC "calls_of" (defScope (top 28)) s.heap.objs.size c.f_calls_of (.ref c.c_calls_of)))) :
    SSs (cxOf (L2.CX P w) P w K mg base ["one", "found", "part"] "calls_of" (defScope (top 28)) c.f_calls_of (.ref c.c_calls_of) A outer s H E) c.M E (defBody (top 28)) (b_calls_of F) :=
  have cx : CtxOk (cxOf (L2.CX P w) P w K mg base ["one", "found", "part"] "calls_of" (defScope (top 28)) c.f_calls_of (.ref c.c_calls_of) A outer s H E) E := ctx_of sc_calls_of.nd hr
  have ce := cx.e
  have hr0 := hr.mono (Nat.le_succ n)
  (sss_cons (ss_set (i := 1) cx (se_if (st_eq  (se_ixT (se_var 0) se_int) (se_str [99, 97, 108, 108] rfl)) (se_lst (sa_cons (se_var 0) sa_nil)) (se_lst sa_nil)))
    (sss_cons (ss_for (vs := [2]) 10000 cx (si_lst (se_call ce hr0 G.G_parts_of rfl c.g_parts_of (sa_cons (se_var 0) sa_nil))) (sg_name 2 ce.nd) (sss_one (ss_set (i := 1) cx (se_catL (se_var 1) (se_call ce hr0 G.G_calls_of rfl c.g_calls_of (sa_cons (se_var 2) sa_nil))))))
    (sss_one (ss_ret (se_var 1)))))
theorem up_calls_of (c : Fc w K mg) {n : Nat} {F : Fs} (G : Gs P base c n F) : FnG P w K mg base c.M (n + 2) c.f_calls_of c.fd_calls_of ["one"] (fsUp F).calls_of := fnG_mk c.F_calls_of sc_calls_of (bn_calls_of c) rfl (fun A outer s H E hr => dv_calls_of c G hr)
theorem sc_is_function : FnScope ["value"] ["value"] (defScope (top 29)) := ⟨rfl, rfl, rfl, by decide +kernel, rfl, by decide +kernel, by decide +kernel⟩
theorem bn_is_function (c : Fc w K mg) : Binds K c.fd_is_function ["value"] [] := c.F_is_function.binds fun _ _ _ _ _ _ us hl => match us, hl with | [_], _ => rfl
theorem dv_is_function (c : Fc w K mg) {n : Nat} {F : Fs} (G : Gs P base c n F) {A : Around} {outer : List Env} {s : Shared} {H : Hp} {E : XK} (hr : Room (n + 1) (A.deeper (envOfC "is_function" (defScope (top 29)) s.heap.objs.size c.f_is_function (.ref c.c_is_function)))) :
    SSs (cxOf (L2.CX P w) P w K mg base ["value"] "is_function" (defScope (top 29)) c.f_is_function (.ref c.c_is_function) A outer s H E) c.M E (defBody (top 29)) (b_is_function F) :=
  have cx : CtxOk (cxOf (L2.CX P w) P w K mg base ["value"] "is_function" (defScope (top 29)) c.f_is_function (.ref c.c_is_function) A outer s H E) E := ctx_of sc_is_function.nd hr
  have ce := cx.e
  have hr0 := hr.mono (Nat.le_succ n)
  (sss_cons (ss_if (SW.st (sw_or (st_not (st_val (se_isi Ty.tuple rfl c.b_isinstance rfl c.b_tuple (by decide +kernel) (se_var 0)))) (sw_or (st_ne  (se_callB call_len ok_len rfl c.b_len PySem.boot_len (sa_cons (se_var 0) sa_nil)) se_int) (sw_or (st_not (st_val (se_call ce hr0 G.G_is_name rfl c.g_is_name (sa_cons (se_ixT (se_var 0) se_int) sa_nil)))) (sw_or1 (st_not (st_val (se_call ce hr0 G.G_is_in rfl c.g_is_in (sa_cons (se_ixT (se_var 0) se_int) (sa_cons se_int (sa_cons (se_glob rfl c.mg_MOST_LATES c.gi_MOST_LATES) sa_nil))))))))))) (sss_one (ss_ret se_bl)) sss_nil)
    (sss_one (ss_ret (se_call ce hr0 G.G_is_expression rfl c.g_is_expression (sa_cons (se_ixT (se_var 0) se_int) (sa_cons (se_ixT (se_var 0) se_int) (sa_cons (se_glob rfl c.mg_MOST_DEEP c.gi_MOST_DEEP) sa_nil)))))))
theorem up_is_function (c : Fc w K mg) {n : Nat} {F : Fs} (G : Gs P base c n F) : FnG P w K mg base c.M (n + 2) c.f_is_function c.fd_is_function ["value"] (fsUp F).is_function := fnG_mk c.F_is_function sc_is_function (bn_is_function c) rfl (fun A outer s H E hr => dv_is_function c G hr)
end
end Kv

/-! Printed by pr.py: each def computes what its function says. -/
namespace Kv
open PySem PySem.Spec PyProof.Rows L2 GenW
section
variable {P : Program} {w : World} {K : PySem.W.Frag} {mg : Str → Option Value} {base : Heap}
theorem sc_is_program : FnScope ["value", "sizes", "name", "lates", "body", "one", "call"] ["value"] (defScope (top 30)) := ⟨rfl, rfl, rfl, by decide +kernel, rfl, by decide +kernel, by decide +kernel⟩
theorem bn_is_program (c : Fc w K mg) : Binds K c.fd_is_program ["value"] [] := c.F_is_program.binds fun _ _ _ _ _ _ us hl => match us, hl with | [_], _ => rfl
theorem dv_is_program (c : Fc w K mg) (TB : Tb base c) {n : Nat} {F : Fs} (G : Gs P base c n F) {A : Around} {outer : List Env} {s : Shared} {H : Hp} {E : XK} (hr : Room (n + 1) (A.deeper (envOfC "is_program" (defScope (top 30)) s.heap.objs.size c.f_is_program (.ref c.c_is_program)))) :
    SSs (cxOf (L2.CX P w) P w K mg base ["value", "sizes", "name", "lates", "body", "one", "call"] "is_program" (defScope (top 30)) c.f_is_program (.ref c.c_is_program) A outer s H E) c.M E (defBody (top 30)) (b_is_program F) :=
  have cx : CtxOk (cxOf (L2.CX P w) P w K mg base ["value", "sizes", "name", "lates", "body", "one", "call"] "is_program" (defScope (top 30)) c.f_is_program (.ref c.c_is_program) A outer s H E) E := ctx_of sc_is_program.nd hr
  have ce := cx.e
  have hr0 := hr.mono (Nat.le_succ n)
  (sss_cons (ss_if (SW.st (sw_or (st_not (st_val (se_isi Ty.tuple rfl c.b_isinstance rfl c.b_tuple (by decide +kernel) (se_var 0)))) (sw_or1 (st_not (st_chainLe se_int (se_callB call_len ok_len rfl c.b_len PySem.boot_len (sa_cons (se_var 0) sa_nil)) (se_glob rfl c.mg_MOST_FUNCTIONS c.gi_MOST_FUNCTIONS)))))) (sss_one (ss_ret se_bl)) sss_nil)
    (sss_cons (ss_if (st_not (st_val (se_all (own := [("one", 5)]) (vs := [5]) 10000 ce hr rfl c.b_all (by decide +kernel) TB.tb_is_program rfl c.in_is_program c.nt_is_program (by exact (show BlkOk ["value", "sizes", "name", "lates", "body", "one", "call"] (defScope (top 30)) _ _ from ⟨rfl, by decide +kernel, by decide +kernel, by decide +kernel, by decide +kernel⟩)) rfl rfl (by decide +kernel) (by first | rfl | decide +kernel) (si_tup (se_var 0)) (fun _ _ _ _ _ _ => (sg_name 5 ce.nd)) (fun _ _ _ _ _ _ hr1 => (se_call (CtxE.gen ce hr1) hr1 G.G_is_function rfl c.g_is_function (sa_cons (se_var 5) sa_nil))) (fun _ => rfl)))) (sss_one (ss_ret se_bl)) sss_nil)
    (sss_cons (ss_set (i := 1) cx (se_dc (own := [("name", 2), ("lates", 3), ("body", 4)]) (vs := [2, 3, 4]) 10000 ce (by exact (show BlkOk ["value", "sizes", "name", "lates", "body", "one", "call"] (defScope (top 30)) _ _ from ⟨rfl, by decide +kernel, by decide +kernel, by decide +kernel, by decide +kernel⟩)) rfl (si_tup (se_var 0)) (fun _ _ _ _ _ => (sg_tup ce.calm (sgs_cons (sg_name 2 ce.nd) (sgs_cons (sg_name 3 ce.nd) (sgs_cons (sg_name 4 ce.nd) sgs_nil))))) (fun _ _ _ _ _ => (se_var 2)) (fun _ _ _ _ _ => (se_var 3))))
    (sss_cons (ss_if (SW.st (sw_or (st_ne  (se_callB call_lenD ok_lenD rfl c.b_len PySem.boot_len (sa_cons (se_var 1) sa_nil)) (se_callB call_len ok_len rfl c.b_len PySem.boot_len (sa_cons (se_var 0) sa_nil))) (sw_or1 (st_gt  (se_sum (own := [("name", 2), ("lates", 3), ("body", 4)]) (vs := [2, 3, 4]) 10000 ce hr rfl c.b_sum (by decide +kernel) TB.tb_is_program rfl c.in_is_program c.nt_is_program (by exact (show BlkOk ["value", "sizes", "name", "lates", "body", "one", "call"] (defScope (top 30)) _ _ from ⟨rfl, by decide +kernel, by decide +kernel, by decide +kernel, by decide +kernel⟩)) rfl rfl (by decide +kernel) (by first | rfl | decide +kernel) (si_tup (se_var 0)) (fun _ _ _ _ _ _ => (sg_tup ce.calm (sgs_cons (sg_name 2 ce.nd) (sgs_cons (sg_name 3 ce.nd) (sgs_cons (sg_name 4 ce.nd) sgs_nil))))) (fun _ _ _ _ _ _ hr1 => (se_call (CtxE.gen ce hr1) hr1 G.G_nodes_of rfl c.g_nodes_of (sa_cons (se_var 4) sa_nil))) (fun _ => rfl)) (se_glob rfl c.mg_MOST_NODES c.gi_MOST_NODES))))) (sss_one (ss_ret se_bl)) sss_nil)
    (sss_cons (ss_for (vs := [2, 3, 4]) 10000 cx (si_tup (se_var 0)) (sg_tup ce.calm (sgs_cons (sg_name 2 ce.nd) (sgs_cons (sg_name 3 ce.nd) (sgs_cons (sg_name 4 ce.nd) sgs_nil)))) (sss_one (ss_if (st_not (st_val (se_all (own := [("call", 6)]) (vs := [6]) 10000 ce hr rfl c.b_all (by decide +kernel) TB.tb_is_program rfl c.in_is_program c.nt_is_program (by exact (show BlkOk ["value", "sizes", "name", "lates", "body", "one", "call"] (defScope (top 30)) _ _ from ⟨rfl, by decide +kernel, by decide +kernel, by decide +kernel, by decide +kernel⟩)) rfl rfl (by decide +kernel) (by first | rfl | decide +kernel) (si_lst (se_call ce hr0 G.G_calls_of rfl c.g_calls_of (sa_cons (se_var 4) sa_nil))) (fun _ _ _ _ _ _ => (sg_name 6 ce.nd)) (fun _ _ _ _ _ _ hr1 => (se_eq  (se_dget (CtxE.gen ce hr1) (se_var 1) (se_ixT (se_var 6) se_int) (se_neg se_int)) (se_callB call_len ok_len rfl c.b_len PySem.boot_len (sa_cons (se_ixT (se_var 6) se_int) sa_nil)))) (fun _ => rfl)))) (sss_one (ss_ret se_bl)) sss_nil)))
    (sss_one (ss_ret se_bl)))))))
theorem up_is_program (c : Fc w K mg) (TB : Tb base c) {n : Nat} {F : Fs} (G : Gs P base c n F) : FnG P w K mg base c.M (n + 2) c.f_is_program c.fd_is_program ["value"] (fsUp F).is_program := (fnG_mk c.F_is_program sc_is_program (bn_is_program c) rfl (fun A outer s H E hr => dv_is_program c TB G hr)).cutF
theorem sc_need_program : FnScope ["program"] ["program"] (defScope (top 31)) := ⟨rfl, rfl, rfl, by decide +kernel, rfl, by decide +kernel, by decide +kernel⟩
theorem bn_need_program (c : Fc w K mg) : Binds K c.fd_need_program ["program"] [] := c.F_need_program.binds fun _ _ _ _ _ _ us hl => match us, hl with | [_], _ => rfl
theorem dv_need_program (c : Fc w K mg) {n : Nat} {F : Fs} (G : Gs P base c n F) {A : Around} {outer : List Env} {s : Shared} {H : Hp} {E : XK} (hr : Room (n + 1) (A.deeper (envOfC "need_program" (defScope (top 31)) s.heap.objs.size c.f_need_program (.ref c.c_need_program)))) :
    SSs (cxOf (L2.CX P w) P w K mg base ["program"] "need_program" (defScope (top 31)) c.f_need_program (.ref c.c_need_program) A outer s H E) c.M E (defBody (top 31)) (b_need_program F) :=
  have cx : CtxOk (cxOf (L2.CX P w) P w K mg base ["program"] "need_program" (defScope (top 31)) c.f_need_program (.ref c.c_need_program) A outer s H E) E := ctx_of sc_need_program.nd hr
  have ce := cx.e
  have hr0 := hr.mono (Nat.le_succ n)
  (sss_one (ss_if (st_not (st_val (se_call ce hr0 G.G_is_program rfl c.g_is_program (sa_cons (se_var 0) sa_nil)))) (sss_one ss_never) sss_nil))
theorem up_need_program (c : Fc w K mg) {n : Nat} {F : Fs} (G : Gs P base c n F) : FnG P w K mg base c.M (n + 2) c.f_need_program c.fd_need_program ["program"] (fsUp F).need_program := fnG_mk c.F_need_program sc_need_program (bn_need_program c) rfl (fun A outer s H E hr => dv_need_program c G hr)
theorem sc_point_of : FnScope ["name", "first", "last", "digit"] ["name"] (defScope (top 37)) := ⟨rfl, rfl, rfl, by decide +kernel, rfl, by decide +kernel, by decide +kernel⟩
theorem bn_point_of (c : Fc w K mg) : Binds K c.fd_point_of ["name"] [] := c.F_point_of.binds fun _ _ _ _ _ _ us hl => match us, hl with | [_], _ => rfl
theorem dv_point_of (c : Fc w K mg) (TB : Tb base c) {n : Nat} {F : Fs} (G : Gs P base c n F) {A : Around} {outer : List Env} {s : Shared} {H : Hp} {E : XK} (hr : Room (n + 1) (A.deeper (envOfC "point_of" (defScope (top 37)) s.heap.objs.size c.f_point_of (.ref c.c_point_of)))) :
    SSs (cxOf (L2.CX P w) P w K mg base ["name", "first", "last", "digit"] "point_of" (defScope (top 37)) c.f_point_of (.ref c.c_point_of) A outer s H E) c.M E (defBody (top 37)) (b_point_of F) :=
  have cx : CtxOk (cxOf (L2.CX P w) P w K mg base ["name", "first", "last", "digit"] "point_of" (defScope (top 37)) c.f_point_of (.ref c.c_point_of) A outer s H E) E := ctx_of sc_point_of.nd hr
  have ce := cx.e
  have hr0 := hr.mono (Nat.le_succ n)
  (sss_cons (ss_if (SW.st (sw_or (st_not (st_val (se_isi Ty.str rfl c.b_isinstance rfl c.b_str (by decide +kernel) (se_var 0)))) (sw_or1 (st_ne  (se_cnt (se_var 0) (se_str [95] rfl)) se_int)))) (sss_one (ss_ret se_non)) sss_nil)
    (sss_cons (ss_asg (vs := [1, 2]) (se_spl (se_var 0) (se_str [95] rfl)) (sg_unl ce.calm (sgs_cons (sg_name 1 ce.nd) (sgs_cons (sg_name 2 ce.nd) sgs_nil))))
    (sss_cons (ss_if (SW.st (sw_or (st_not (st_val (se_call ce hr0 G.G_is_name rfl c.g_is_name (sa_cons (se_var 1) sa_nil)))) (sw_or (st_not (st_chainLe se_int (se_callB call_len ok_len rfl c.b_len PySem.boot_len (sa_cons (se_var 2) sa_nil)) se_int)) (sw_or1 (st_not (st_val (se_all (own := [("digit", 3)]) (vs := [3]) 10000 ce hr rfl c.b_all (by decide +kernel) TB.tb_point_of rfl c.in_point_of c.nt_point_of (by exact (show BlkOk ["name", "first", "last", "digit"] (defScope (top 37)) _ _ from ⟨rfl, by decide +kernel, by decide +kernel, by decide +kernel, by decide +kernel⟩)) rfl rfl (by decide +kernel) (by first | rfl | decide +kernel) (si_str (se_var 2)) (fun _ _ _ _ _ _ => (sg_name 3 ce.nd)) (fun _ _ _ _ _ _ hr1 => (se_inS  (se_var 3) (se_glob rfl c.mg_DIGITS_plains c.gi_DIGITS_plains))) (fun _ => rfl)))))))) (sss_one (ss_ret se_non)) sss_nil)
    (sss_cons (ss_if (SW.st (sw_or (st_ne  (se_callTy call_str_int ok_strI rfl c.b_str (by decide +kernel) (sa_cons (se_callTy call_int_str ok_intS rfl c.b_int (by decide +kernel) (sa_cons (se_var 2) sa_nil)) sa_nil)) (se_var 2)) (sw_or1 (st_gt  (se_callTy call_int_str ok_intS rfl c.b_int (by decide +kernel) (sa_cons (se_var 2) sa_nil)) (se_glob rfl c.mg_MOST_EARLY c.gi_MOST_EARLY))))) (sss_one (ss_ret se_non)) sss_nil)
    (sss_one (ss_ret (se_tup (sa_cons (se_var 1) (sa_cons (se_callTy call_int_str ok_intS rfl c.b_int (by decide +kernel) (sa_cons (se_var 2) sa_nil)) sa_nil)))))))))
theorem up_point_of (c : Fc w K mg) (TB : Tb base c) {n : Nat} {F : Fs} (G : Gs P base c n F) : FnG P w K mg base c.M (n + 2) c.f_point_of c.fd_point_of ["name"] (fsUp F).point_of := fnG_mk c.F_point_of sc_point_of (bn_point_of c) rfl (fun A outer s H E hr => dv_point_of c TB G hr)
theorem sc_is_plain_expression : FnScope ["value", "lates", "deep", "one"] ["value", "lates", "deep"] (defScope (top 38)) := ⟨rfl, rfl, rfl, by decide +kernel, rfl, by decide +kernel, by decide +kernel⟩
theorem bn_is_plain_expression (c : Fc w K mg) : Binds K c.fd_is_plain_expression ["value", "lates", "deep"] [] := c.F_is_plain_expression.binds fun _ _ _ _ _ _ us hl => match us, hl with | [_, _, _], _ => rfl
theorem dv_is_plain_expression (c : Fc w K mg) (TB : Tb base c) {n : Nat} {F : Fs} (G : Gs P base c n F) {A : Around} {outer : List Env} {s : Shared} {H : Hp} {E : XK} (hr : Room (n + 1) (A.deeper (envOfC "is_plain_expression" (defScope (top 38)) s.heap.objs.size c.f_is_plain_expression (.ref c.c_is_plain_expression)))) :
    SSs (cxOf (L2.CX P w) P w K mg base ["value", "lates", "deep", "one"] "is_plain_expression" (defScope (top 38)) c.f_is_plain_expression (.ref c.c_is_plain_expression) A outer s H E) c.M E (defBody (top 38)) (b_is_plain_expression F) :=
  have cx : CtxOk (cxOf (L2.CX P w) P w K mg base ["value", "lates", "deep", "one"] "is_plain_expression" (defScope (top 38)) c.f_is_plain_expression (.ref c.c_is_plain_expression) A outer s H E) E := ctx_of sc_is_plain_expression.nd hr
  have ce := cx.e
  have hr0 := hr.mono (Nat.le_succ n)
  (sss_cons (ss_if (st_eq  (se_var 2) se_int) (sss_one (ss_ret se_bl)) sss_nil)
    (sss_cons (ss_if (st_val (se_call ce hr0 G.G_is_tuple rfl c.g_is_tuple (sa_cons (se_var 0) (sa_cons se_int sa_nil)))) (sss_cons (ss_if (st_eq  (se_ixT (se_var 0) se_int) (se_str [110, 117, 109, 98, 101, 114] rfl)) (sss_one (ss_ret (se_call ce hr0 G.G_is_in rfl c.g_is_in (sa_cons (se_ixT (se_var 0) se_int) (sa_cons se_int (sa_cons (se_glob rfl c.mg_MOST_VALUE c.gi_MOST_VALUE) sa_nil)))))) sss_nil)
    (sss_one (ss_ret (se_and (se_eq  (se_ixT (se_var 0) se_int) (se_str [108, 97, 116, 101] rfl)) (se_one (se_call ce hr0 G.G_is_in rfl c.g_is_in (sa_cons (se_ixT (se_var 0) se_int) (sa_cons se_int (sa_cons (se_sub (se_var 1) se_int) sa_nil))))))))) sss_nil)
    (sss_cons (ss_if (st_val (se_call ce hr0 G.G_is_tuple rfl c.g_is_tuple (sa_cons (se_var 0) (sa_cons se_int sa_nil)))) (sss_cons (ss_if (st_inL  (se_ixT (se_var 0) se_int) (se_glob rfl c.mg_PAIRS c.gi_PAIRS)) (sss_one (ss_ret (se_all (own := [("one", 3)]) (vs := [3]) 10000 ce hr rfl c.b_all (by decide +kernel) TB.tb_is_plain_expression rfl c.in_is_plain_expression c.nt_is_plain_expression (by exact (show BlkOk ["value", "lates", "deep", "one"] (defScope (top 38)) _ _ from ⟨rfl, by decide +kernel, by decide +kernel, by decide +kernel, by decide +kernel⟩)) rfl rfl (by decide +kernel) (by first | rfl | decide +kernel) (si_tup (se_slT (k := 1) (se_var 0))) (fun _ _ _ _ _ _ => (sg_name 3 ce.nd)) (fun _ _ _ _ _ _ hr1 => (se_call (CtxE.gen ce hr1) hr1 G.G_is_plain_expression rfl c.g_is_plain_expression (sa_cons (se_var 3) (sa_cons (se_var 1) (sa_cons (se_sub (se_var 2) se_int) sa_nil))))) (fun _ => rfl)))) sss_nil)
    (sss_cons (ss_if (SW.st (sw_or (st_ne  (se_ixT (se_var 0) se_int) (se_str [99, 97, 108, 108] rfl)) (sw_or (st_isN (se_call ce hr0 G.G_point_of rfl c.g_point_of (sa_cons (se_ixT (se_var 0) se_int) sa_nil))) (sw_or1 (st_not (st_val (se_isi Ty.tuple rfl c.b_isinstance rfl c.b_tuple (by decide +kernel) (se_ixT (se_var 0) se_int)))))))) (sss_one (ss_ret se_bl)) sss_nil)
    (sss_one (ss_ret (se_and (se_le  (se_callB call_len ok_len rfl c.b_len PySem.boot_len (sa_cons (se_ixT (se_var 0) se_int) sa_nil)) (se_glob rfl c.mg_MOST_LATES c.gi_MOST_LATES)) (se_one (se_all (own := [("one", 3)]) (vs := [3]) 10000 ce hr rfl c.b_all (by decide +kernel) TB.tb_is_plain_expression rfl c.in_is_plain_expression c.nt_is_plain_expression (by exact (show BlkOk ["value", "lates", "deep", "one"] (defScope (top 38)) _ _ from ⟨rfl, by decide +kernel, by decide +kernel, by decide +kernel, by decide +kernel⟩)) rfl rfl (by decide +kernel) (by first | rfl | decide +kernel) (si_tup (se_ixT (se_var 0) se_int)) (fun _ _ _ _ _ _ => (sg_name 3 ce.nd)) (fun _ _ _ _ _ _ hr1 => (se_call (CtxE.gen ce hr1) hr1 G.G_is_plain_expression rfl c.g_is_plain_expression (sa_cons (se_var 3) (sa_cons (se_var 1) (sa_cons (se_sub (se_var 2) se_int) sa_nil))))) (fun _ => rfl)))))))) sss_nil)
    (sss_cons (ss_if (SW.st (sw_or (st_not (st_val (se_call ce hr0 G.G_is_tuple rfl c.g_is_tuple (sa_cons (se_var 0) (sa_cons se_int sa_nil))))) (sw_or (st_ne  (se_ixT (se_var 0) se_int) (se_str [105, 102] rfl)) (sw_or (st_not (st_val (se_call ce hr0 G.G_is_tuple rfl c.g_is_tuple (sa_cons (se_ixT (se_var 0) se_int) (sa_cons se_int sa_nil))))) (sw_or1 (st_ne  (se_ixT (se_ixT (se_var 0) se_int) se_int) (se_str [108, 101, 115, 115] rfl))))))) (sss_one (ss_ret se_bl)) sss_nil)
    (sss_cons (ss_if (SW.st (sw_or (st_lt  (se_var 2) se_int) (sw_or1 (st_not (st_val (se_all (own := [("one", 3)]) (vs := [3]) 10000 ce hr rfl c.b_all (by decide +kernel) TB.tb_is_plain_expression rfl c.in_is_plain_expression c.nt_is_plain_expression (by exact (show BlkOk ["value", "lates", "deep", "one"] (defScope (top 38)) _ _ from ⟨rfl, by decide +kernel, by decide +kernel, by decide +kernel, by decide +kernel⟩)) rfl rfl (by decide +kernel) (by first | rfl | decide +kernel) (si_tup (se_slT (k := 1) (se_ixT (se_var 0) se_int))) (fun _ _ _ _ _ _ => (sg_name 3 ce.nd)) (fun _ _ _ _ _ _ hr1 => (se_call (CtxE.gen ce hr1) hr1 G.G_is_plain_expression rfl c.g_is_plain_expression (sa_cons (se_var 3) (sa_cons (se_var 1) (sa_cons (se_sub (se_var 2) se_int) sa_nil))))) (fun _ => rfl))))))) (sss_one (ss_ret se_bl)) sss_nil)
    (sss_one (ss_ret (se_all (own := [("one", 3)]) (vs := [3]) 10000 ce hr rfl c.b_all (by decide +kernel) TB.tb_is_plain_expression rfl c.in_is_plain_expression c.nt_is_plain_expression (by exact (show BlkOk ["value", "lates", "deep", "one"] (defScope (top 38)) _ _ from ⟨rfl, by decide +kernel, by decide +kernel, by decide +kernel, by decide +kernel⟩)) rfl rfl (by decide +kernel) (by first | rfl | decide +kernel) (si_tup (se_slT (k := 2) (se_var 0))) (fun _ _ _ _ _ _ => (sg_name 3 ce.nd)) (fun _ _ _ _ _ _ hr1 => (se_call (CtxE.gen ce hr1) hr1 G.G_is_plain_expression rfl c.g_is_plain_expression (sa_cons (se_var 3) (sa_cons (se_var 1) (sa_cons (se_sub (se_var 2) se_int) sa_nil))))) (fun _ => rfl)))))))))
theorem up_is_plain_expression (c : Fc w K mg) (TB : Tb base c) {n : Nat} {F : Fs} (G : Gs P base c n F) : FnG P w K mg base c.M (n + 2) c.f_is_plain_expression c.fd_is_plain_expression ["value", "lates", "deep"] (fsUp F).is_plain_expression := (fnG_mk c.F_is_plain_expression sc_is_plain_expression (bn_is_plain_expression c) rfl (fun A outer s H E hr => dv_is_plain_expression c TB G hr)).cutF
theorem sc_is_plain_function : FnScope ["value"] ["value"] (defScope (top 39)) := ⟨rfl, rfl, rfl, by decide +kernel, rfl, by decide +kernel, by decide +kernel⟩
theorem bn_is_plain_function (c : Fc w K mg) : Binds K c.fd_is_plain_function ["value"] [] := c.F_is_plain_function.binds fun _ _ _ _ _ _ us hl => match us, hl with | [_], _ => rfl
theorem dv_is_plain_function (c : Fc w K mg) {n : Nat} {F : Fs} (G : Gs P base c n F) {A : Around} {outer : List Env} {s : Shared} {H : Hp} {E : XK} (hr : Room (n + 1) (A.deeper (envOfC "is_plain_function" (defScope (top 39)) s.heap.objs.size c.f_is_plain_function (.ref c.c_is_plain_function)))) :
    SSs (cxOf (L2.CX P w) P w K mg base ["value"] "is_plain_function" (defScope (top 39)) c.f_is_plain_function (.ref c.c_is_plain_function) A outer s H E) c.M E (defBody (top 39)) (b_is_plain_function F) :=
  have cx : CtxOk (cxOf (L2.CX P w) P w K mg base ["value"] "is_plain_function" (defScope (top 39)) c.f_is_plain_function (.ref c.c_is_plain_function) A outer s H E) E := ctx_of sc_is_plain_function.nd hr
  have ce := cx.e
  have hr0 := hr.mono (Nat.le_succ n)
  (sss_cons (ss_if (SW.st (sw_or (st_not (st_val (se_isi Ty.tuple rfl c.b_isinstance rfl c.b_tuple (by decide +kernel) (se_var 0)))) (sw_or (st_ne  (se_callB call_len ok_len rfl c.b_len PySem.boot_len (sa_cons (se_var 0) sa_nil)) se_int) (sw_or1 (st_isN (se_call ce hr0 G.G_point_of rfl c.g_point_of (sa_cons (se_ixT (se_var 0) se_int) sa_nil))))))) (sss_one (ss_ret se_bl)) sss_nil)
    (sss_one (ss_ret (se_and (se_call ce hr0 G.G_is_in rfl c.g_is_in (sa_cons (se_ixT (se_var 0) se_int) (sa_cons se_int (sa_cons (se_glob rfl c.mg_MOST_LATES c.gi_MOST_LATES) sa_nil)))) (se_one (se_call ce hr0 G.G_is_plain_expression rfl c.g_is_plain_expression (sa_cons (se_ixT (se_var 0) se_int) (sa_cons (se_ixT (se_var 0) se_int) (sa_cons (se_glob rfl c.mg_MOST_DEEP c.gi_MOST_DEEP) sa_nil)))))))))
theorem up_is_plain_function (c : Fc w K mg) {n : Nat} {F : Fs} (G : Gs P base c n F) : FnG P w K mg base c.M (n + 2) c.f_is_plain_function c.fd_is_plain_function ["value"] (fsUp F).is_plain_function := fnG_mk c.F_is_plain_function sc_is_plain_function (bn_is_plain_function c) rfl (fun A outer s H E hr => dv_is_plain_function c G hr)
theorem sc_is_plain : FnScope ["value", "sizes", "name", "lates", "body", "one", "call"] ["value"] (defScope (top 40)) := ⟨rfl, rfl, rfl, by decide +kernel, rfl, by decide +kernel, by decide +kernel⟩
theorem bn_is_plain (c : Fc w K mg) : Binds K c.fd_is_plain ["value"] [] := c.F_is_plain.binds fun _ _ _ _ _ _ us hl => match us, hl with | [_], _ => rfl
theorem dv_is_plain (c : Fc w K mg) (TB : Tb base c) {n : Nat} {F : Fs} (G : Gs P base c n F) {A : Around} {outer : List Env} {s : Shared} {H : Hp} {E : XK} (hr : Room (n + 1) (A.deeper (envOfC "is_plain" (defScope (top 40)) s.heap.objs.size c.f_is_plain (.ref c.c_is_plain)))) :
    SSs (cxOf (L2.CX P w) P w K mg base ["value", "sizes", "name", "lates", "body", "one", "call"] "is_plain" (defScope (top 40)) c.f_is_plain (.ref c.c_is_plain) A outer s H E) c.M E (defBody (top 40)) (b_is_plain F) :=
  have cx : CtxOk (cxOf (L2.CX P w) P w K mg base ["value", "sizes", "name", "lates", "body", "one", "call"] "is_plain" (defScope (top 40)) c.f_is_plain (.ref c.c_is_plain) A outer s H E) E := ctx_of sc_is_plain.nd hr
  have ce := cx.e
  have hr0 := hr.mono (Nat.le_succ n)
  (sss_cons (ss_if (SW.st (sw_or (st_not (st_val (se_isi Ty.tuple rfl c.b_isinstance rfl c.b_tuple (by decide +kernel) (se_var 0)))) (sw_or1 (st_not (st_chainLe se_int (se_callB call_len ok_len rfl c.b_len PySem.boot_len (sa_cons (se_var 0) sa_nil)) (se_glob rfl c.mg_MOST_PLAIN c.gi_MOST_PLAIN)))))) (sss_one (ss_ret se_bl)) sss_nil)
    (sss_cons (ss_if (st_not (st_val (se_all (own := [("one", 5)]) (vs := [5]) 10000 ce hr rfl c.b_all (by decide +kernel) TB.tb_is_plain rfl c.in_is_plain c.nt_is_plain (by exact (show BlkOk ["value", "sizes", "name", "lates", "body", "one", "call"] (defScope (top 40)) _ _ from ⟨rfl, by decide +kernel, by decide +kernel, by decide +kernel, by decide +kernel⟩)) rfl rfl (by decide +kernel) (by first | rfl | decide +kernel) (si_tup (se_var 0)) (fun _ _ _ _ _ _ => (sg_name 5 ce.nd)) (fun _ _ _ _ _ _ hr1 => (se_call (CtxE.gen ce hr1) hr1 G.G_is_plain_function rfl c.g_is_plain_function (sa_cons (se_var 5) sa_nil))) (fun _ => rfl)))) (sss_one (ss_ret se_bl)) sss_nil)
    (sss_cons (ss_set (i := 1) cx (se_dc (own := [("name", 2), ("lates", 3), ("body", 4)]) (vs := [2, 3, 4]) 10000 ce (by exact (show BlkOk ["value", "sizes", "name", "lates", "body", "one", "call"] (defScope (top 40)) _ _ from ⟨rfl, by decide +kernel, by decide +kernel, by decide +kernel, by decide +kernel⟩)) rfl (si_tup (se_var 0)) (fun _ _ _ _ _ => (sg_tup ce.calm (sgs_cons (sg_name 2 ce.nd) (sgs_cons (sg_name 3 ce.nd) (sgs_cons (sg_name 4 ce.nd) sgs_nil))))) (fun _ _ _ _ _ => (se_var 2)) (fun _ _ _ _ _ => (se_var 3))))
    (sss_cons (ss_if (st_ne  (se_callB call_lenD ok_lenD rfl c.b_len PySem.boot_len (sa_cons (se_var 1) sa_nil)) (se_callB call_len ok_len rfl c.b_len PySem.boot_len (sa_cons (se_var 0) sa_nil))) (sss_one (ss_ret se_bl)) sss_nil)
    (sss_cons (ss_for (vs := [2, 3, 4]) 10000 cx (si_tup (se_var 0)) (sg_tup ce.calm (sgs_cons (sg_name 2 ce.nd) (sgs_cons (sg_name 3 ce.nd) (sgs_cons (sg_name 4 ce.nd) sgs_nil)))) (sss_one (ss_if (st_not (st_val (se_all (own := [("call", 6)]) (vs := [6]) 10000 ce hr rfl c.b_all (by decide +kernel) TB.tb_is_plain rfl c.in_is_plain c.nt_is_plain (by exact (show BlkOk ["value", "sizes", "name", "lates", "body", "one", "call"] (defScope (top 40)) _ _ from ⟨rfl, by decide +kernel, by decide +kernel, by decide +kernel, by decide +kernel⟩)) rfl rfl (by decide +kernel) (by first | rfl | decide +kernel) (si_lst (se_call ce hr0 G.G_calls_of rfl c.g_calls_of (sa_cons (se_var 4) sa_nil))) (fun _ _ _ _ _ _ => (sg_name 6 ce.nd)) (fun _ _ _ _ _ _ hr1 => (se_eq  (se_dget (CtxE.gen ce hr1) (se_var 1) (se_ixT (se_var 6) se_int) (se_neg se_int)) (se_callB call_len ok_len rfl c.b_len PySem.boot_len (sa_cons (se_ixT (se_var 6) se_int) sa_nil)))) (fun _ => rfl)))) (sss_one (ss_ret se_bl)) sss_nil)))
    (sss_one (ss_ret se_bl)))))))
theorem up_is_plain (c : Fc w K mg) (TB : Tb base c) {n : Nat} {F : Fs} (G : Gs P base c n F) : FnG P w K mg base c.M (n + 2) c.f_is_plain c.fd_is_plain ["value"] (fsUp F).is_plain := (fnG_mk c.F_is_plain sc_is_plain (bn_is_plain c) rfl (fun A outer s H E hr => dv_is_plain c TB G hr)).cutF
theorem sc_need_plain : FnScope ["plain"] ["plain"] (defScope (top 41)) := ⟨rfl, rfl, rfl, by decide +kernel, rfl, by decide +kernel, by decide +kernel⟩
theorem bn_need_plain (c : Fc w K mg) : Binds K c.fd_need_plain ["plain"] [] := c.F_need_plain.binds fun _ _ _ _ _ _ us hl => match us, hl with | [_], _ => rfl
theorem dv_need_plain (c : Fc w K mg) {n : Nat} {F : Fs} (G : Gs P base c n F) {A : Around} {outer : List Env} {s : Shared} {H : Hp} {E : XK} (hr : Room (n + 1) (A.deeper (envOfC "need_plain" (defScope (top 41)) s.heap.objs.size c.f_need_plain (.ref c.c_need_plain)))) :
    SSs (cxOf (L2.CX P w) P w K mg base ["plain"] "need_plain" (defScope (top 41)) c.f_need_plain (.ref c.c_need_plain) A outer s H E) c.M E (defBody (top 41)) (b_need_plain F) :=
  have cx : CtxOk (cxOf (L2.CX P w) P w K mg base ["plain"] "need_plain" (defScope (top 41)) c.f_need_plain (.ref c.c_need_plain) A outer s H E) E := ctx_of sc_need_plain.nd hr
  have ce := cx.e
  have hr0 := hr.mono (Nat.le_succ n)
  (sss_one (ss_if (st_not (st_val (se_call ce hr0 G.G_is_plain rfl c.g_is_plain (sa_cons (se_var 0) sa_nil)))) (sss_one ss_never) sss_nil))
theorem up_need_plain (c : Fc w K mg) {n : Nat} {F : Fs} (G : Gs P base c n F) : FnG P w K mg base c.M (n + 2) c.f_need_plain c.fd_need_plain ["plain"] (fsUp F).need_plain := fnG_mk c.F_need_plain sc_need_plain (bn_need_plain c) rfl (fun A outer s H E hr => dv_need_plain c G hr)
theorem sc_row_end : FnScope ["text", "at", "signs"] ["text", "at", "signs"] (defScope (top 47)) := ⟨rfl, rfl, rfl, by decide +kernel, rfl, by decide +kernel, by decide +kernel⟩
theorem bn_row_end (c : Fc w K mg) : Binds K c.fd_row_end ["text", "at", "signs"] [] := c.F_row_end.binds fun _ _ _ _ _ _ us hl => match us, hl with | [_, _, _], _ => rfl
theorem dv_row_end (c : Fc w K mg) {n : Nat} {F : Fs} (G : Gs P base c n F) {A : Around} {outer : List Env} {s : Shared} {H : Hp} {E : XK} (hr : Room (n + 1) (A.deeper (envOfC "row_end" (defScope (top 47)) s.heap.objs.size c.f_row_end (.ref c.c_row_end)))) :
    SSs (cxOf (L2.CX P w) P w K mg base ["text", "at", "signs"] "row_end" (defScope (top 47)) c.f_row_end (.ref c.c_row_end) A outer s H E) c.M E (defBody (top 47)) (b_row_end F) :=
  have cx : CtxOk (cxOf (L2.CX P w) P w K mg base ["text", "at", "signs"] "row_end" (defScope (top 47)) c.f_row_end (.ref c.c_row_end) A outer s H E) E := ctx_of sc_row_end.nd hr
  have ce := cx.e
  have hr0 := hr.mono (Nat.le_succ n)
  (sss_cons (ss_while 10000 cx (SW.st (sw_and (st_lt  (se_var 1) (se_callB call_len ok_len rfl c.b_len PySem.boot_len (sa_cons (se_var 0) sa_nil))) (sw_and1 (st_inS  (se_ixS (se_var 0) (se_var 1)) (se_var 2))))) (sss_one (ss_set (i := 1) cx (se_add (se_var 1) se_int))))
    (sss_one (ss_ret (se_var 1))))
theorem up_row_end (c : Fc w K mg) {n : Nat} {F : Fs} (G : Gs P base c n F) : FnG P w K mg base c.M (n + 2) c.f_row_end c.fd_row_end ["text", "at", "signs"] (fsUp F).row_end := fnG_mk c.F_row_end sc_row_end (bn_row_end c) rfl (fun A outer s H E hr => dv_row_end c G hr)
theorem sc_words_of : FnScope ["text", "is_staged", "found", "at", "end"] ["text", "is_staged"] (defScope (top 48)) := ⟨rfl, rfl, rfl, by decide +kernel, rfl, by decide +kernel, by decide +kernel⟩
theorem bn_words_of (c : Fc w K mg) : Binds K c.fd_words_of ["text", "is_staged"] [] := c.F_words_of.binds fun _ _ _ _ _ _ us hl => match us, hl with | [_, _], _ => rfl
theorem dv_words_of (c : Fc w K mg) {n : Nat} {F : Fs} (G : Gs P base c n F) {A : Around} {outer : List Env} {s : Shared} {H : Hp} {E : XK} (hr : Room (n + 1) (A.deeper (envOfC "words_of" (defScope (top 48)) s.heap.objs.size c.f_words_of (.ref c.c_words_of)))) :
    SSs (cxOf (L2.CX P w) P w K mg base ["text", "is_staged", "found", "at", "end"] "words_of" (defScope (top 48)) c.f_words_of (.ref c.c_words_of) A outer s H E) c.M E (defBody (top 48)) (b_words_of F) :=
  have cx : CtxOk (cxOf (L2.CX P w) P w K mg base ["text", "is_staged", "found", "at", "end"] "words_of" (defScope (top 48)) c.f_words_of (.ref c.c_words_of) A outer s H E) E := ctx_of sc_words_of.nd hr
  have ce := cx.e
  have hr0 := hr.mono (Nat.le_succ n)
  (sss_cons (ss_par (i := 2) (j := 3) cx rfl rfl (by decide) rfl rfl (sa_cons (se_lst sa_nil) (sa_cons se_int sa_nil)) rfl)
    (sss_cons (ss_while 10000 cx (st_lt  (se_var 3) (se_callB call_len ok_len rfl c.b_len PySem.boot_len (sa_cons (se_var 0) sa_nil))) (sss_cons (ss_set (i := 4) cx (se_add (se_var 3) se_int))
    (sss_cons (ss_if (st_inS  (se_ixS (se_var 0) (se_var 3)) (se_glob rfl c.mg_LETTERS c.gi_LETTERS)) (sss_cons (ss_set (i := 4) cx (se_call ce hr0 G.G_row_end rfl c.g_row_end (sa_cons (se_var 0) (sa_cons (se_var 3) (sa_cons (se_glob rfl c.mg_LETTERS c.gi_LETTERS) sa_nil)))))
    (sss_one (ss_if (SW.st (sw_and (st_val (se_var 1)) (sw_and1 (st_eq  (se_slS (se_var 0) (sn_some (se_var 4)) (sn_some (se_add (se_var 4) se_int))) (se_str [95] rfl))))) (sss_one (ss_set (i := 4) cx (se_call ce hr0 G.G_row_end rfl c.g_row_end (sa_cons (se_var 0) (sa_cons (se_add (se_var 4) se_int) (sa_cons (se_glob rfl c.mg_DIGITS_reading c.gi_DIGITS_reading) sa_nil)))))) sss_nil))) (sss_one (ss_if (st_inS  (se_ixS (se_var 0) (se_var 3)) (se_glob rfl c.mg_DIGITS_reading c.gi_DIGITS_reading)) (sss_cons (ss_set (i := 4) cx (se_call ce hr0 G.G_row_end rfl c.g_row_end (sa_cons (se_var 0) (sa_cons (se_var 3) (sa_cons (se_glob rfl c.mg_DIGITS_reading c.gi_DIGITS_reading) sa_nil)))))
    (sss_one (ss_if (SW.st (sw_and (st_gt  (se_sub (se_var 4) (se_var 3)) se_int) (sw_and1 (st_eq  (se_ixS (se_var 0) (se_var 3)) (se_str [48] rfl))))) (sss_one (ss_raise 0 cx c.x_InvalidText rfl)) sss_nil))) (sss_one (ss_if (SW.st (sw_and (st_ninS  (se_ixS (se_var 0) (se_var 3)) (se_glob rfl c.mg_ALONE c.gi_ALONE)) (sw_and1 (st_ne  (se_ixS (se_var 0) (se_var 3)) (se_str [32] rfl))))) (sss_one (ss_raise 0 cx c.x_InvalidText rfl)) sss_nil)))))
    (sss_cons (ss_if (SW.st (sw_and (st_inS  (se_ixS (se_var 0) (se_var 3)) (se_catS (se_glob rfl c.mg_LETTERS c.gi_LETTERS) (se_glob rfl c.mg_DIGITS_reading c.gi_DIGITS_reading))) (sw_and1 (st_inL  (se_slS (se_var 0) (sn_some (se_var 4)) (sn_some (se_add (se_var 4) se_int))) (se_lstS (sl_star ce (se_glob rfl c.mg_LETTERS c.gi_LETTERS) (sl_star ce (se_glob rfl c.mg_DIGITS_reading c.gi_DIGITS_reading) (SA.sl (sa_cons (se_str [95] rfl) sa_nil))))))))) (sss_one (ss_raise 0 cx c.x_InvalidText rfl)) sss_nil)
    (sss_cons (ss_if (st_ne  (se_ixS (se_var 0) (se_var 3)) (se_str [32] rfl)) (sss_one (ss_expr (se_app (se_var 2) (sa_cons (se_slS (se_var 0) (sn_some (se_var 3)) (sn_some (se_var 4))) sa_nil)))) sss_nil)
    (sss_one (ss_set (i := 3) cx (se_var 4))))))))
    (sss_one (ss_ret (se_var 2)))))
theorem up_words_of (c : Fc w K mg) {n : Nat} {F : Fs} (G : Gs P base c n F) : FnG P w K mg base c.M (n + 2) c.f_words_of c.fd_words_of ["text", "is_staged"] (fsUp F).words_of := fnG_mk c.F_words_of sc_words_of (bn_words_of c) rfl (fun A outer s H E hr => dv_words_of c G hr)
theorem sc_m_init : FnScope ["self", "words", "is_staged"] ["self", "words", "is_staged"] (defScope (inClass (top 49) 0)) := ⟨rfl, rfl, rfl, by decide +kernel, rfl, by decide +kernel, by decide +kernel⟩
theorem bn_m_init (c : Fc w K mg) : Binds K c.fd_m_init ["self", "words", "is_staged"] [] := c.F_m_init.binds fun _ _ _ _ _ _ us hl => match us, hl with | [_, _, _], _ => rfl
theorem dv_m_init (c : Fc w K mg) {n : Nat} {F : Fs} (G : Gs P base c n F) {A : Around} {outer : List Env} {s : Shared} {H : Hp} {E : XK} (hr : Room (n + 1) (A.deeper (envOfC "Reading.__init__" (defScope (inClass (top 49) 0)) s.heap.objs.size c.f_m_init (.ref c.c_m_init)))) :
    SSs (cxOf (L2.CX P w) P w K mg base ["self", "words", "is_staged"] "Reading.__init__" (defScope (inClass (top 49) 0)) c.f_m_init (.ref c.c_m_init) A outer s H E) c.M E (defBody (inClass (top 49) 0)) (b_m_init F) :=
  have cx : CtxOk (cxOf (L2.CX P w) P w K mg base ["self", "words", "is_staged"] "Reading.__init__" (defScope (inClass (top 49) 0)) c.f_m_init (.ref c.c_m_init) A outer s H E) E := ctx_of sc_m_init.nd hr
  have ce := cx.e
  have hr0 := hr.mono (Nat.le_succ n)
  (sss_cons (ss_fld 0 c.cl c.na0 (se_var 0) (se_var 1))
    (sss_cons (ss_fld 1 c.cl c.na1 (se_var 0) (se_var 2))
    (sss_one (ss_fld 2 c.cl c.na2 (se_var 0) se_int))))
theorem up_m_init (c : Fc w K mg) {n : Nat} {F : Fs} (G : Gs P base c n F) : FnG P w K mg base c.M (n + 2) c.f_m_init c.fd_m_init ["self", "words", "is_staged"] (fsUp F).m_init := fnG_mk c.F_m_init sc_m_init (bn_m_init c) rfl (fun A outer s H E hr => dv_m_init c G hr)
theorem sc_m_look : FnScope ["self"] ["self"] (defScope (inClass (top 49) 1)) := ⟨rfl, rfl, rfl, by decide +kernel, rfl, by decide +kernel, by decide +kernel⟩
theorem bn_m_look (c : Fc w K mg) : Binds K c.fd_m_look ["self"] [] := c.F_m_look.binds fun _ _ _ _ _ _ us hl => match us, hl with | [_], _ => rfl
theorem dv_m_look (c : Fc w K mg) {n : Nat} {F : Fs} (G : Gs P base c n F) {A : Around} {outer : List Env} {s : Shared} {H : Hp} {E : XK} (hr : Room (n + 1) (A.deeper (envOfC "Reading.look" (defScope (inClass (top 49) 1)) s.heap.objs.size c.f_m_look (.ref c.c_m_look)))) :
    SSs (cxOf (L2.CX P w) P w K mg base ["self"] "Reading.look" (defScope (inClass (top 49) 1)) c.f_m_look (.ref c.c_m_look) A outer s H E) c.M E (defBody (inClass (top 49) 1)) (b_m_look F) :=
  have cx : CtxOk (cxOf (L2.CX P w) P w K mg base ["self"] "Reading.look" (defScope (inClass (top 49) 1)) c.f_m_look (.ref c.c_m_look) A outer s H E) E := ctx_of sc_m_look.nd hr
  have ce := cx.e
  have hr0 := hr.mono (Nat.le_succ n)
  (sss_one (ss_ret (se_if (st_lt  (se_fld 2 c.cl c.na2 (se_var 0)) (se_callB call_len ok_len rfl c.b_len PySem.boot_len (sa_cons (se_fld 0 c.cl c.na0 (se_var 0)) sa_nil))) (se_ixL (se_fld 0 c.cl c.na0 (se_var 0)) (se_fld 2 c.cl c.na2 (se_var 0))) (se_str [] rfl))))
theorem up_m_look (c : Fc w K mg) {n : Nat} {F : Fs} (G : Gs P base c n F) : FnG P w K mg base c.M (n + 2) c.f_m_look c.fd_m_look ["self"] (fsUp F).m_look := fnG_mk c.F_m_look sc_m_look (bn_m_look c) rfl (fun A outer s H E hr => dv_m_look c G hr)
end
end Kv

/-! Printed by pr.py: each def computes what its function says. -/
namespace Kv
open PySem PySem.Spec PyProof.Rows L2 GenW
section
variable {P : Program} {w : World} {K : PySem.W.Frag} {mg : Str → Option Value} {base : Heap}
theorem sc_m_next : FnScope ["self", "word"] ["self"] (defScope (inClass (top 49) 2)) := ⟨rfl, rfl, rfl, by decide +kernel, rfl, by decide +kernel, by decide +kernel⟩
theorem bn_m_next (c : Fc w K mg) : Binds K c.fd_m_next ["self"] [] := c.F_m_next.binds fun _ _ _ _ _ _ us hl => match us, hl with | [_], _ => rfl
theorem dv_m_next (c : Fc w K mg) {n : Nat} {F : Fs} (G : Gs P base c n F) {A : Around} {outer : List Env} {s : Shared} {H : Hp} {E : XK} (hr : Room (n + 1) (A.deeper (envOfC "Reading.next" (defScope (inClass (top 49) 2)) s.heap.objs.size c.f_m_next (.ref c.c_m_next)))) :
    SSs (cxOf (L2.CX P w) P w K mg base ["self", "word"] "Reading.next" (defScope (inClass (top 49) 2)) c.f_m_next (.ref c.c_m_next) A outer s H E) c.M E (defBody (inClass (top 49) 2)) (b_m_next F) :=
  have cx : CtxOk (cxOf (L2.CX P w) P w K mg base ["self", "word"] "Reading.next" (defScope (inClass (top 49) 2)) c.f_m_next (.ref c.c_m_next) A outer s H E) E := ctx_of sc_m_next.nd hr
  have ce := cx.e
  have hr0 := hr.mono (Nat.le_succ n)
  (sss_cons (ss_set (i := 1) cx (se_meth0 ce c.cl c.M_m_look hr0 G.G_m_look (se_var 0)))
    (sss_cons (ss_fld 2 c.cl c.na2 (se_var 0) (se_add (se_fld 2 c.cl c.na2 (se_var 0)) se_int))
    (sss_one (ss_ret (se_var 1)))))
theorem up_m_next (c : Fc w K mg) {n : Nat} {F : Fs} (G : Gs P base c n F) : FnG P w K mg base c.M (n + 2) c.f_m_next c.fd_m_next ["self"] (fsUp F).m_next := fnG_mk c.F_m_next sc_m_next (bn_m_next c) rfl (fun A outer s H E hr => dv_m_next c G hr)
theorem sc_m_need : FnScope ["self", "word"] ["self", "word"] (defScope (inClass (top 49) 3)) := ⟨rfl, rfl, rfl, by decide +kernel, rfl, by decide +kernel, by decide +kernel⟩
theorem bn_m_need (c : Fc w K mg) : Binds K c.fd_m_need ["self", "word"] [] := c.F_m_need.binds fun _ _ _ _ _ _ us hl => match us, hl with | [_, _], _ => rfl
theorem dv_m_need (c : Fc w K mg) {n : Nat} {F : Fs} (G : Gs P base c n F) {A : Around} {outer : List Env} {s : Shared} {H : Hp} {E : XK} (hr : Room (n + 1) (A.deeper (envOfC "Reading.need" (defScope (inClass (top 49) 3)) s.heap.objs.size c.f_m_need (.ref c.c_m_need)))) :
    SSs (cxOf (L2.CX P w) P w K mg base ["self", "word"] "Reading.need" (defScope (inClass (top 49) 3)) c.f_m_need (.ref c.c_m_need) A outer s H E) c.M E (defBody (inClass (top 49) 3)) (b_m_need F) :=
  have cx : CtxOk (cxOf (L2.CX P w) P w K mg base ["self", "word"] "Reading.need" (defScope (inClass (top 49) 3)) c.f_m_need (.ref c.c_m_need) A outer s H E) E := ctx_of sc_m_need.nd hr
  have ce := cx.e
  have hr0 := hr.mono (Nat.le_succ n)
  (sss_one (ss_if (st_ne  (se_meth0 ce c.cl c.M_m_next hr0 G.G_m_next (se_var 0)) (se_var 1)) (sss_one (ss_raise 0 cx c.x_InvalidText rfl)) sss_nil))
theorem up_m_need (c : Fc w K mg) {n : Nat} {F : Fs} (G : Gs P base c n F) : FnG P w K mg base c.M (n + 2) c.f_m_need c.fd_m_need ["self", "word"] (fsUp F).m_need := fnG_mk c.F_m_need sc_m_need (bn_m_need c) rfl (fun A outer s H E hr => dv_m_need c G hr)
theorem sc_m_number : FnScope ["self", "word"] ["self"] (defScope (inClass (top 49) 4)) := ⟨rfl, rfl, rfl, by decide +kernel, rfl, by decide +kernel, by decide +kernel⟩
theorem bn_m_number (c : Fc w K mg) : Binds K c.fd_m_number ["self"] [] := c.F_m_number.binds fun _ _ _ _ _ _ us hl => match us, hl with | [_], _ => rfl
theorem dv_m_number (c : Fc w K mg) {n : Nat} {F : Fs} (G : Gs P base c n F) {A : Around} {outer : List Env} {s : Shared} {H : Hp} {E : XK} (hr : Room (n + 1) (A.deeper (envOfC "Reading.number" (defScope (inClass (top 49) 4)) s.heap.objs.size c.f_m_number (.ref c.c_m_number)))) :
    SSs (cxOf (L2.CX P w) P w K mg base ["self", "word"] "Reading.number" (defScope (inClass (top 49) 4)) c.f_m_number (.ref c.c_m_number) A outer s H E) c.M E (defBody (inClass (top 49) 4)) (b_m_number F) :=
  have cx : CtxOk (cxOf (L2.CX P w) P w K mg base ["self", "word"] "Reading.number" (defScope (inClass (top 49) 4)) c.f_m_number (.ref c.c_m_number) A outer s H E) E := ctx_of sc_m_number.nd hr
  have ce := cx.e
  have hr0 := hr.mono (Nat.le_succ n)
  (sss_cons (ss_set (i := 1) cx (se_meth0 ce c.cl c.M_m_next hr0 G.G_m_next (se_var 0)))
    (sss_cons (ss_if (SW.st (sw_or (st_eq  (se_var 1) (se_str [] rfl)) (sw_or (st_ninS  (se_ixS (se_var 1) se_int) (se_glob rfl c.mg_DIGITS_reading c.gi_DIGITS_reading)) (sw_or1 (st_gt  (se_callB call_len ok_len rfl c.b_len PySem.boot_len (sa_cons (se_var 1) sa_nil)) se_int))))) (sss_one (ss_raise 0 cx c.x_InvalidText rfl)) sss_nil)
    (sss_one (ss_ret (se_callTy call_int_str ok_intS rfl c.b_int (by decide +kernel) (sa_cons (se_var 1) sa_nil))))))
theorem up_m_number (c : Fc w K mg) {n : Nat} {F : Fs} (G : Gs P base c n F) : FnG P w K mg base c.M (n + 2) c.f_m_number c.fd_m_number ["self"] (fsUp F).m_number := fnG_mk c.F_m_number sc_m_number (bn_m_number c) rfl (fun A outer s H E hr => dv_m_number c G hr)
theorem sc_m_move : FnScope ["self", "sign", "step"] ["self"] (defScope (inClass (top 49) 5)) := ⟨rfl, rfl, rfl, by decide +kernel, rfl, by decide +kernel, by decide +kernel⟩
theorem bn_m_move (c : Fc w K mg) : Binds K c.fd_m_move ["self"] [] := c.F_m_move.binds fun _ _ _ _ _ _ us hl => match us, hl with | [_], _ => rfl
theorem dv_m_move (c : Fc w K mg) {n : Nat} {F : Fs} (G : Gs P base c n F) {A : Around} {outer : List Env} {s : Shared} {H : Hp} {E : XK} (hr : Room (n + 1) (A.deeper (envOfC "Reading.move" (defScope (inClass (top 49) 5)) s.heap.objs.size c.f_m_move (.ref c.c_m_move)))) :
    SSs (cxOf (L2.CX P w) P w K mg base ["self", "sign", "step"] "Reading.move" (defScope (inClass (top 49) 5)) c.f_m_move (.ref c.c_m_move) A outer s H E) c.M E (defBody (inClass (top 49) 5)) (b_m_move F) :=
  have cx : CtxOk (cxOf (L2.CX P w) P w K mg base ["self", "sign", "step"] "Reading.move" (defScope (inClass (top 49) 5)) c.f_m_move (.ref c.c_m_move) A outer s H E) E := ctx_of sc_m_move.nd hr
  have ce := cx.e
  have hr0 := hr.mono (Nat.le_succ n)
  (sss_cons (ss_if (st_ne  (se_meth0 ce c.cl c.M_m_look hr0 G.G_m_look (se_var 0)) (se_str [101] rfl)) (sss_one (ss_ret (se_tup (sa_cons (se_str [103, 105, 118, 101] rfl) (sa_cons (se_meth0 ce c.cl c.M_m_number hr0 G.G_m_number (se_var 0)) sa_nil))))) sss_nil)
    (sss_cons (ss_expr (se_meth0 ce c.cl c.M_m_next hr0 G.G_m_next (se_var 0)))
    (sss_cons (ss_if (st_ninL  (se_meth0 ce c.cl c.M_m_look hr0 G.G_m_look (se_var 0)) (se_lst (sa_cons (se_str [43] rfl) (sa_cons (se_str [45] rfl) sa_nil)))) (sss_one (ss_ret (se_tup (sa_cons (se_str [109, 111, 118, 101] rfl) (sa_cons se_int sa_nil))))) sss_nil)
    (sss_cons (ss_par (i := 1) (j := 2) cx rfl rfl (by decide) rfl rfl (sa_cons (se_meth0 ce c.cl c.M_m_next hr0 G.G_m_next (se_var 0)) (sa_cons (se_meth0 ce c.cl c.M_m_number hr0 G.G_m_number (se_var 0)) sa_nil)) rfl)
    (sss_cons (ss_if (st_eq  (se_var 2) se_int) (sss_one (ss_raise 0 cx c.x_InvalidText rfl)) sss_nil)
    (sss_one (ss_ret (se_tup (sa_cons (se_str [109, 111, 118, 101] rfl) (sa_cons (se_if (st_eq  (se_var 1) (se_str [43] rfl)) (se_var 2) (se_sub se_int (se_var 2))) sa_nil))))))))))
theorem up_m_move (c : Fc w K mg) {n : Nat} {F : Fs} (G : Gs P base c n F) : FnG P w K mg base c.M (n + 2) c.f_m_move c.fd_m_move ["self"] (fsUp F).m_move := fnG_mk c.F_m_move sc_m_move (bn_m_move c) rfl (fun A outer s H E hr => dv_m_move c G hr)
theorem sc_m_some : FnScope ["self", "deep", "found"] ["self", "deep"] (defScope (inClass (top 49) 6)) := ⟨rfl, rfl, rfl, by decide +kernel, rfl, by decide +kernel, by decide +kernel⟩
theorem bn_m_some (c : Fc w K mg) : Binds K c.fd_m_some ["self", "deep"] [] := c.F_m_some.binds fun _ _ _ _ _ _ us hl => match us, hl with | [_, _], _ => rfl
theorem dv_m_some (c : Fc w K mg) {n : Nat} {F : Fs} (G : Gs P base c n F) {A : Around} {outer : List Env} {s : Shared} {H : Hp} {E : XK} (hr : Room (n + 1) (A.deeper (envOfC "Reading.some" (defScope (inClass (top 49) 6)) s.heap.objs.size c.f_m_some (.ref c.c_m_some)))) :
    SSs (cxOf (L2.CX P w) P w K mg base ["self", "deep", "found"] "Reading.some" (defScope (inClass (top 49) 6)) c.f_m_some (.ref c.c_m_some) A outer s H E) c.M E (defBody (inClass (top 49) 6)) (b_m_some F) :=
  have cx : CtxOk (cxOf (L2.CX P w) P w K mg base ["self", "deep", "found"] "Reading.some" (defScope (inClass (top 49) 6)) c.f_m_some (.ref c.c_m_some) A outer s H E) E := ctx_of sc_m_some.nd hr
  have ce := cx.e
  have hr0 := hr.mono (Nat.le_succ n)
  (sss_cons (ss_set (i := 2) cx (se_lst sa_nil))
    (sss_cons (ss_while 10000 cx (st_ne  (se_meth0 ce c.cl c.M_m_look hr0 G.G_m_look (se_var 0)) (se_str [41] rfl)) (sss_cons (ss_if (st_tru (se_var 2)) (sss_one (ss_expr (se_meth ce c.cl c.M_m_need hr0 G.G_m_need (se_var 0) (sa_cons (se_str [44] rfl) sa_nil)))) sss_nil)
    (sss_one (ss_expr (se_app (se_var 2) (sa_cons (se_meth ce c.cl c.M_m_expression hr0 G.G_m_expression (se_var 0) (sa_cons (se_var 1) sa_nil)) sa_nil))))))
    (sss_cons (ss_expr (se_meth0 ce c.cl c.M_m_next hr0 G.G_m_next (se_var 0)))
    (sss_one (ss_ret (se_callTy call_tuple_of ok_tuple rfl c.b_tuple (by decide +kernel) (sa_cons (se_var 2) sa_nil)))))))
theorem up_m_some (c : Fc w K mg) {n : Nat} {F : Fs} (G : Gs P base c n F) : FnG P w K mg base c.M (n + 2) c.f_m_some c.fd_m_some ["self", "deep"] (fsUp F).m_some := fnG_mk c.F_m_some sc_m_some (bn_m_some c) rfl (fun A outer s H E hr => dv_m_some c G hr)
theorem sc_m_call : FnScope ["self", "name", "deep", "move"] ["self", "name", "deep"] (defScope (inClass (top 49) 7)) := ⟨rfl, rfl, rfl, by decide +kernel, rfl, by decide +kernel, by decide +kernel⟩
theorem bn_m_call (c : Fc w K mg) : Binds K c.fd_m_call ["self", "name", "deep"] [] := c.F_m_call.binds fun _ _ _ _ _ _ us hl => match us, hl with | [_, _, _], _ => rfl
theorem dv_m_call (c : Fc w K mg) {n : Nat} {F : Fs} (G : Gs P base c n F) {A : Around} {outer : List Env} {s : Shared} {H : Hp} {E : XK} (hr : Room (n + 1) (A.deeper (envOfC "Reading.call" (defScope (inClass (top 49) 7)) s.heap.objs.size c.f_m_call (.ref c.c_m_call)))) :
    SSs (cxOf (L2.CX P w) P w K mg base ["self", "name", "deep", "move"] "Reading.call" (defScope (inClass (top 49) 7)) c.f_m_call (.ref c.c_m_call) A outer s H E) c.M E (defBody (inClass (top 49) 7)) (b_m_call F) :=
  have cx : CtxOk (cxOf (L2.CX P w) P w K mg base ["self", "name", "deep", "move"] "Reading.call" (defScope (inClass (top 49) 7)) c.f_m_call (.ref c.c_m_call) A outer s H E) E := ctx_of sc_m_call.nd hr
  have ce := cx.e
  have hr0 := hr.mono (Nat.le_succ n)
  (sss_cons (ss_expr (se_meth ce c.cl c.M_m_need hr0 G.G_m_need (se_var 0) (sa_cons (se_str [40] rfl) sa_nil)))
    (sss_cons (ss_if (st_val (se_fld 1 c.cl c.na1 (se_var 0))) (sss_one (ss_ret (se_tup (sa_cons (se_str [99, 97, 108, 108] rfl) (sa_cons (se_var 1) (sa_cons (se_meth ce c.cl c.M_m_some hr0 G.G_m_some (se_var 0) (sa_cons (se_sub (se_var 2) se_int) sa_nil)) sa_nil)))))) sss_nil)
    (sss_cons (ss_set (i := 3) cx (se_meth0 ce c.cl c.M_m_move hr0 G.G_m_move (se_var 0)))
    (sss_cons (ss_if (st_eq  (se_meth0 ce c.cl c.M_m_look hr0 G.G_m_look (se_var 0)) (se_str [41] rfl)) (sss_cons (ss_expr (se_meth0 ce c.cl c.M_m_next hr0 G.G_m_next (se_var 0)))
    (sss_one (ss_ret (se_tup (sa_cons (se_str [99, 97, 108, 108] rfl) (sa_cons (se_var 1) (sa_cons (se_var 3) (sa_cons (se_tup sa_nil) sa_nil)))))))) sss_nil)
    (sss_cons (ss_expr (se_meth ce c.cl c.M_m_need hr0 G.G_m_need (se_var 0) (sa_cons (se_str [124] rfl) sa_nil)))
    (sss_cons (ss_if (st_eq  (se_meth0 ce c.cl c.M_m_look hr0 G.G_m_look (se_var 0)) (se_str [41] rfl)) (sss_one (ss_raise 0 cx c.x_InvalidText rfl)) sss_nil)
    (sss_one (ss_ret (se_tup (sa_cons (se_str [99, 97, 108, 108] rfl) (sa_cons (se_var 1) (sa_cons (se_var 3) (sa_cons (se_meth ce c.cl c.M_m_some hr0 G.G_m_some (se_var 0) (sa_cons (se_sub (se_var 2) se_int) sa_nil)) sa_nil)))))))))))))
theorem up_m_call (c : Fc w K mg) {n : Nat} {F : Fs} (G : Gs P base c n F) : FnG P w K mg base c.M (n + 2) c.f_m_call c.fd_m_call ["self", "name", "deep"] (fsUp F).m_call := fnG_mk c.F_m_call sc_m_call (bn_m_call c) rfl (fun A outer s H E hr => dv_m_call c G hr)
theorem sc_m_test : FnScope ["self", "deep", "first", "second", "divisor"] ["self", "deep"] (defScope (inClass (top 49) 8)) := ⟨rfl, rfl, rfl, by decide +kernel, rfl, by decide +kernel, by decide +kernel⟩
theorem bn_m_test (c : Fc w K mg) : Binds K c.fd_m_test ["self", "deep"] [] := c.F_m_test.binds fun _ _ _ _ _ _ us hl => match us, hl with | [_, _], _ => rfl
theorem dv_m_test (c : Fc w K mg) {n : Nat} {F : Fs} (G : Gs P base c n F) {A : Around} {outer : List Env} {s : Shared} {H : Hp} {E : XK} (hr : Room (n + 1) (A.deeper (envOfC "Reading.test" (defScope (inClass (top 49) 8)) s.heap.objs.size c.f_m_test (.ref c.c_m_test)))) :
    SSs (cxOf (L2.CX P w) P w K mg base ["self", "deep", "first", "second", "divisor"] "Reading.test" (defScope (inClass (top 49) 8)) c.f_m_test (.ref c.c_m_test) A outer s H E) c.M E (defBody (inClass (top 49) 8)) (b_m_test F) :=
  have cx : CtxOk (cxOf (L2.CX P w) P w K mg base ["self", "deep", "first", "second", "divisor"] "Reading.test" (defScope (inClass (top 49) 8)) c.f_m_test (.ref c.c_m_test) A outer s H E) E := ctx_of sc_m_test.nd hr
  have ce := cx.e
  have hr0 := hr.mono (Nat.le_succ n)
  (sss_cons (ss_set (i := 2) cx (se_meth ce c.cl c.M_m_expression hr0 G.G_m_expression (se_var 0) (sa_cons (se_callB (call_max2 ce.calm) ok_max rfl c.b_max (by decide +kernel) (sa_cons (se_sub (se_var 1) se_int) (sa_cons se_int sa_nil))) sa_nil)))
    (sss_cons (ss_if (SW.st (sw_and (st_eqD ce (se_var 2) (se_tup (sa_cons (se_str [101, 97, 114, 108, 121] rfl) sa_nil))) (sw_and1 (st_eq  (se_meth0 ce c.cl c.M_m_look hr0 G.G_m_look (se_var 0)) (se_str [109, 111, 100] rfl))))) (sss_cons (ss_expr (se_meth0 ce c.cl c.M_m_next hr0 G.G_m_next (se_var 0)))
    (sss_cons (ss_set (i := 4) cx (se_meth0 ce c.cl c.M_m_number hr0 G.G_m_number (se_var 0)))
    (sss_cons (ss_expr (se_meth ce c.cl c.M_m_need hr0 G.G_m_need (se_var 0) (sa_cons (se_str [61] rfl) sa_nil)))
    (sss_one (ss_ret (se_tup (sa_cons (se_str [114, 101, 115, 116] rfl) (sa_cons (se_var 4) (sa_cons (se_meth0 ce c.cl c.M_m_number hr0 G.G_m_number (se_var 0)) sa_nil))))))))) sss_nil)
    (sss_cons (ss_expr (se_meth ce c.cl c.M_m_need hr0 G.G_m_need (se_var 0) (sa_cons (se_str [60] rfl) sa_nil)))
    (sss_cons (ss_set (i := 3) cx (se_meth ce c.cl c.M_m_expression hr0 G.G_m_expression (se_var 0) (sa_cons (se_callB (call_max2 ce.calm) ok_max rfl c.b_max (by decide +kernel) (sa_cons (se_sub (se_var 1) se_int) (sa_cons se_int sa_nil))) sa_nil)))
    (sss_cons (ss_if (SW.st (sw_and (st_eqD ce (se_var 2) (se_tup (sa_cons (se_str [101, 97, 114, 108, 121] rfl) sa_nil))) (sw_and1 (st_eq  (se_ixT (se_var 3) se_int) (se_str [110, 117, 109, 98, 101, 114] rfl))))) (sss_one (ss_ret (se_tup (sa_cons (se_str [98, 101, 108, 111, 119] rfl) (sa_cons (se_ixT (se_var 3) se_int) sa_nil))))) sss_nil)
    (sss_one (ss_ret (se_tup (sa_cons (se_str [108, 101, 115, 115] rfl) (sa_cons (se_var 2) (sa_cons (se_var 3) sa_nil)))))))))))
theorem up_m_test (c : Fc w K mg) {n : Nat} {F : Fs} (G : Gs P base c n F) : FnG P w K mg base c.M (n + 2) c.f_m_test c.fd_m_test ["self", "deep"] (fsUp F).m_test := fnG_mk c.F_m_test sc_m_test (bn_m_test c) rfl (fun A outer s H E hr => dv_m_test c G hr)
theorem sc_m_inside : FnScope ["self", "deep", "test", "one", "found", "sign"] ["self", "deep"] (defScope (inClass (top 49) 9)) := ⟨rfl, rfl, rfl, by decide +kernel, rfl, by decide +kernel, by decide +kernel⟩
theorem bn_m_inside (c : Fc w K mg) : Binds K c.fd_m_inside ["self", "deep"] [] := c.F_m_inside.binds fun _ _ _ _ _ _ us hl => match us, hl with | [_, _], _ => rfl
theorem dv_m_inside (c : Fc w K mg) {n : Nat} {F : Fs} (G : Gs P base c n F) {A : Around} {outer : List Env} {s : Shared} {H : Hp} {E : XK} (hr : Room (n + 1) (A.deeper (envOfC "Reading.inside" (defScope (inClass (top 49) 9)) s.heap.objs.size c.f_m_inside (.ref c.c_m_inside)))) :
    SSs (cxOf (L2.CX P w) P w K mg base ["self", "deep", "test", "one", "found", "sign"] "Reading.inside" (defScope (inClass (top 49) 9)) c.f_m_inside (.ref c.c_m_inside) A outer s H E) c.M E (defBody (inClass (top 49) 9)) (b_m_inside F) :=
  have cx : CtxOk (cxOf (L2.CX P w) P w K mg base ["self", "deep", "test", "one", "found", "sign"] "Reading.inside" (defScope (inClass (top 49) 9)) c.f_m_inside (.ref c.c_m_inside) A outer s H E) E := ctx_of sc_m_inside.nd hr
  have ce := cx.e
  have hr0 := hr.mono (Nat.le_succ n)
  (sss_cons (ss_if (st_eq  (se_meth0 ce c.cl c.M_m_look hr0 G.G_m_look (se_var 0)) (se_str [105, 102] rfl)) (sss_cons (ss_expr (se_meth0 ce c.cl c.M_m_next hr0 G.G_m_next (se_var 0)))
    (sss_cons (ss_set (i := 2) cx (se_meth ce c.cl c.M_m_test hr0 G.G_m_test (se_var 0) (sa_cons (se_sub (se_var 1) se_int) sa_nil)))
    (sss_cons (ss_expr (se_meth ce c.cl c.M_m_need hr0 G.G_m_need (se_var 0) (sa_cons (se_str [116, 104, 101, 110] rfl) sa_nil)))
    (sss_cons (ss_set (i := 3) cx (se_meth ce c.cl c.M_m_expression hr0 G.G_m_expression (se_var 0) (sa_cons (se_sub (se_var 1) se_int) sa_nil)))
    (sss_cons (ss_expr (se_meth ce c.cl c.M_m_need hr0 G.G_m_need (se_var 0) (sa_cons (se_str [101, 108, 115, 101] rfl) sa_nil)))
    (sss_one (ss_set (i := 4) cx (se_tup (sa_cons (se_str [105, 102] rfl) (sa_cons (se_var 2) (sa_cons (se_var 3) (sa_cons (se_meth ce c.cl c.M_m_expression hr0 G.G_m_expression (se_var 0) (sa_cons (se_sub (se_var 1) se_int) sa_nil)) sa_nil)))))))))))) (sss_cons (ss_set (i := 3) cx (se_meth ce c.cl c.M_m_expression hr0 G.G_m_expression (se_var 0) (sa_cons (se_sub (se_var 1) se_int) sa_nil)))
    (sss_cons (ss_set (i := 5) cx (se_meth0 ce c.cl c.M_m_next hr0 G.G_m_next (se_var 0)))
    (sss_cons (ss_if (st_ninKD rfl c.g_KINDS c.kd_KINDS (se_var 5)) (sss_one (ss_raise 0 cx c.x_InvalidText rfl)) sss_nil)
    (sss_one (ss_set (i := 4) cx (se_tup (sa_cons (se_ixKD rfl c.g_KINDS c.kd_KINDS (se_var 5)) (sa_cons (se_var 3) (sa_cons (se_meth ce c.cl c.M_m_expression hr0 G.G_m_expression (se_var 0) (sa_cons (se_sub (se_var 1) se_int) sa_nil)) sa_nil))))))))))
    (sss_cons (ss_expr (se_meth ce c.cl c.M_m_need hr0 G.G_m_need (se_var 0) (sa_cons (se_str [41] rfl) sa_nil)))
    (sss_one (ss_ret (se_var 4)))))
theorem up_m_inside (c : Fc w K mg) {n : Nat} {F : Fs} (G : Gs P base c n F) : FnG P w K mg base c.M (n + 2) c.f_m_inside c.fd_m_inside ["self", "deep"] (fsUp F).m_inside := fnG_mk c.F_m_inside sc_m_inside (bn_m_inside c) rfl (fun A outer s H E hr => dv_m_inside c G hr)
theorem sc_m_expression : FnScope ["self", "deep", "word"] ["self", "deep"] (defScope (inClass (top 49) 10)) := ⟨rfl, rfl, rfl, by decide +kernel, rfl, by decide +kernel, by decide +kernel⟩
theorem bn_m_expression (c : Fc w K mg) : Binds K c.fd_m_expression ["self", "deep"] [] := c.F_m_expression.binds fun _ _ _ _ _ _ us hl => match us, hl with | [_, _], _ => rfl
theorem dv_m_expression (c : Fc w K mg) {n : Nat} {F : Fs} (G : Gs P base c n F) {A : Around} {outer : List Env} {s : Shared} {H : Hp} {E : XK} (hr : Room (n + 1) (A.deeper (envOfC "Reading.expression" (defScope (inClass (top 49) 10)) s.heap.objs.size c.f_m_expression (.ref c.c_m_expression)))) :
    SSs (cxOf (L2.CX P w) P w K mg base ["self", "deep", "word"] "Reading.expression" (defScope (inClass (top 49) 10)) c.f_m_expression (.ref c.c_m_expression) A outer s H E) c.M E (defBody (inClass (top 49) 10)) (b_m_expression F) :=
  have cx : CtxOk (cxOf (L2.CX P w) P w K mg base ["self", "deep", "word"] "Reading.expression" (defScope (inClass (top 49) 10)) c.f_m_expression (.ref c.c_m_expression) A outer s H E) E := ctx_of sc_m_expression.nd hr
  have ce := cx.e
  have hr0 := hr.mono (Nat.le_succ n)
  (sss_cons (ss_if (st_le  (se_var 1) se_int) (sss_one (ss_raise 0 cx c.x_InvalidText rfl)) sss_nil)
    (sss_cons (ss_set (i := 2) cx (se_meth0 ce c.cl c.M_m_next hr0 G.G_m_next (se_var 0)))
    (sss_cons (ss_if (st_eq  (se_var 2) (se_str [40] rfl)) (sss_one (ss_ret (se_meth ce c.cl c.M_m_inside hr0 G.G_m_inside (se_var 0) (sa_cons (se_var 1) sa_nil)))) sss_nil)
    (sss_cons (ss_if (SW.st (sw_and (st_eq  (se_var 2) (se_str [101] rfl)) (sw_and1 (st_not (st_val (se_fld 1 c.cl c.na1 (se_var 0))))))) (sss_one (ss_ret (se_tup (sa_cons (se_str [101, 97, 114, 108, 121] rfl) sa_nil)))) sss_nil)
    (sss_cons (ss_if (st_inL  (se_var 2) (se_glob rfl c.mg_LATES_reading c.gi_LATES_reading)) (sss_one (ss_ret (se_tup (sa_cons (se_str [108, 97, 116, 101] rfl) (sa_cons (se_idx (se_glob rfl c.mg_LATES_reading c.gi_LATES_reading) (sa_cons (se_var 2) sa_nil)) sa_nil))))) sss_nil)
    (sss_cons (ss_if (SW.st (sw_and (st_ne  (se_var 2) (se_str [] rfl)) (sw_and1 (st_inS  (se_ixS (se_var 2) se_int) (se_glob rfl c.mg_DIGITS_reading c.gi_DIGITS_reading))))) (sss_cons (ss_fld 2 c.cl c.na2 (se_var 0) (se_sub (se_fld 2 c.cl c.na2 (se_var 0)) se_int))
    (sss_one (ss_ret (se_tup (sa_cons (se_str [110, 117, 109, 98, 101, 114] rfl) (sa_cons (se_meth0 ce c.cl c.M_m_number hr0 G.G_m_number (se_var 0)) sa_nil)))))) sss_nil)
    (sss_one (ss_ret (se_meth ce c.cl c.M_m_call hr0 G.G_m_call (se_var 0) (sa_cons (se_var 2) (sa_cons (se_var 1) sa_nil)))))))))))
theorem up_m_expression (c : Fc w K mg) {n : Nat} {F : Fs} (G : Gs P base c n F) : FnG P w K mg base c.M (n + 2) c.f_m_expression c.fd_m_expression ["self", "deep"] (fsUp F).m_expression := fnG_mk c.F_m_expression sc_m_expression (bn_m_expression c) rfl (fun A outer s H E hr => dv_m_expression c G hr)
theorem sc_m_function : FnScope ["self", "name", "lates"] ["self"] (defScope (inClass (top 49) 11)) := ⟨rfl, rfl, rfl, by decide +kernel, rfl, by decide +kernel, by decide +kernel⟩
theorem bn_m_function (c : Fc w K mg) : Binds K c.fd_m_function ["self"] [] := c.F_m_function.binds fun _ _ _ _ _ _ us hl => match us, hl with | [_], _ => rfl
theorem dv_m_function (c : Fc w K mg) {n : Nat} {F : Fs} (G : Gs P base c n F) {A : Around} {outer : List Env} {s : Shared} {H : Hp} {E : XK} (hr : Room (n + 1) (A.deeper (envOfC "Reading.function" (defScope (inClass (top 49) 11)) s.heap.objs.size c.f_m_function (.ref c.c_m_function)))) :
    SSs (cxOf (L2.CX P w) P w K mg base ["self", "name", "lates"] "Reading.function" (defScope (inClass (top 49) 11)) c.f_m_function (.ref c.c_m_function) A outer s H E) c.M E (defBody (inClass (top 49) 11)) (b_m_function F) :=
  have cx : CtxOk (cxOf (L2.CX P w) P w K mg base ["self", "name", "lates"] "Reading.function" (defScope (inClass (top 49) 11)) c.f_m_function (.ref c.c_m_function) A outer s H E) E := ctx_of sc_m_function.nd hr
  have ce := cx.e
  have hr0 := hr.mono (Nat.le_succ n)
  (sss_cons (ss_par (i := 1) (j := 2) cx rfl rfl (by decide) rfl rfl (sa_cons (se_meth0 ce c.cl c.M_m_next hr0 G.G_m_next (se_var 0)) (sa_cons se_int sa_nil)) rfl)
    (sss_cons (ss_expr (se_meth ce c.cl c.M_m_need hr0 G.G_m_need (se_var 0) (sa_cons (se_str [40] rfl) sa_nil)))
    (sss_cons (ss_if (st_not (st_val (se_fld 1 c.cl c.na1 (se_var 0)))) (sss_cons (ss_expr (se_meth ce c.cl c.M_m_need hr0 G.G_m_need (se_var 0) (sa_cons (se_str [101] rfl) sa_nil)))
    (sss_one (ss_if (st_eq  (se_meth0 ce c.cl c.M_m_look hr0 G.G_m_look (se_var 0)) (se_str [124] rfl)) (sss_cons (ss_expr (se_meth0 ce c.cl c.M_m_next hr0 G.G_m_next (se_var 0)))
    (sss_cons (ss_set (i := 2) cx (se_meth0 ce c.cl c.M_m_letters hr0 G.G_m_letters (se_var 0)))
    (sss_one (ss_if (st_eq  (se_var 2) se_int) (sss_one (ss_raise 0 cx c.x_InvalidText rfl)) sss_nil)))) sss_nil))) (sss_one (ss_set (i := 2) cx (se_meth0 ce c.cl c.M_m_letters hr0 G.G_m_letters (se_var 0)))))
    (sss_cons (ss_expr (se_meth ce c.cl c.M_m_need hr0 G.G_m_need (se_var 0) (sa_cons (se_str [41] rfl) sa_nil)))
    (sss_cons (ss_expr (se_meth ce c.cl c.M_m_need hr0 G.G_m_need (se_var 0) (sa_cons (se_str [61] rfl) sa_nil)))
    (sss_one (ss_ret (se_tup (sa_cons (se_var 1) (sa_cons (se_var 2) (sa_cons (se_meth ce c.cl c.M_m_expression hr0 G.G_m_expression (se_var 0) (sa_cons (se_glob rfl c.mg_MOST_DEEP c.gi_MOST_DEEP) sa_nil)) sa_nil)))))))))))
theorem up_m_function (c : Fc w K mg) {n : Nat} {F : Fs} (G : Gs P base c n F) : FnG P w K mg base c.M (n + 2) c.f_m_function c.fd_m_function ["self"] (fsUp F).m_function := fnG_mk c.F_m_function sc_m_function (bn_m_function c) rfl (fun A outer s H E hr => dv_m_function c G hr)
theorem sc_m_letters : FnScope ["self", "many"] ["self"] (defScope (inClass (top 49) 12)) := ⟨rfl, rfl, rfl, by decide +kernel, rfl, by decide +kernel, by decide +kernel⟩
theorem bn_m_letters (c : Fc w K mg) : Binds K c.fd_m_letters ["self"] [] := c.F_m_letters.binds fun _ _ _ _ _ _ us hl => match us, hl with | [_], _ => rfl
theorem dv_m_letters (c : Fc w K mg) {n : Nat} {F : Fs} (G : Gs P base c n F) {A : Around} {outer : List Env} {s : Shared} {H : Hp} {E : XK} (hr : Room (n + 1) (A.deeper (envOfC "Reading.letters" (defScope (inClass (top 49) 12)) s.heap.objs.size c.f_m_letters (.ref c.c_m_letters)))) :
    SSs (cxOf (L2.CX P w) P w K mg base ["self", "many"] "Reading.letters" (defScope (inClass (top 49) 12)) c.f_m_letters (.ref c.c_m_letters) A outer s H E) c.M E (defBody (inClass (top 49) 12)) (b_m_letters F) :=
  have cx : CtxOk (cxOf (L2.CX P w) P w K mg base ["self", "many"] "Reading.letters" (defScope (inClass (top 49) 12)) c.f_m_letters (.ref c.c_m_letters) A outer s H E) E := ctx_of sc_m_letters.nd hr
  have ce := cx.e
  have hr0 := hr.mono (Nat.le_succ n)
  (sss_cons (ss_set (i := 1) cx se_int)
    (sss_cons (ss_while 10000 cx (st_inL  (se_meth0 ce c.cl c.M_m_look hr0 G.G_m_look (se_var 0)) (se_glob rfl c.mg_LATES_reading c.gi_LATES_reading)) (sss_cons (ss_if (SW.st (sw_or (st_eq  (se_var 1) (se_callB call_len ok_len rfl c.b_len PySem.boot_len (sa_cons (se_glob rfl c.mg_LATES_reading c.gi_LATES_reading) sa_nil))) (sw_or1 (st_ne  (se_meth0 ce c.cl c.M_m_next hr0 G.G_m_next (se_var 0)) (se_ixL (se_glob rfl c.mg_LATES_reading c.gi_LATES_reading) (se_var 1)))))) (sss_one (ss_raise 0 cx c.x_InvalidText rfl)) sss_nil)
    (sss_cons (ss_set (i := 1) cx (se_add (se_var 1) se_int))
    (sss_cons (ss_if (st_ne  (se_meth0 ce c.cl c.M_m_look hr0 G.G_m_look (se_var 0)) (se_str [44] rfl)) (sss_one (ss_ret (se_var 1))) sss_nil)
    (sss_cons (ss_expr (se_meth0 ce c.cl c.M_m_next hr0 G.G_m_next (se_var 0)))
    (sss_one (ss_if (st_eq  (se_meth0 ce c.cl c.M_m_look hr0 G.G_m_look (se_var 0)) (se_str [41] rfl)) (sss_one (ss_raise 0 cx c.x_InvalidText rfl)) sss_nil)))))))
    (sss_one (ss_ret (se_var 1)))))
theorem up_m_letters (c : Fc w K mg) {n : Nat} {F : Fs} (G : Gs P base c n F) : FnG P w K mg base c.M (n + 2) c.f_m_letters c.fd_m_letters ["self"] (fsUp F).m_letters := fnG_mk c.F_m_letters sc_m_letters (bn_m_letters c) rfl (fun A outer s H E hr => dv_m_letters c G hr)
end
end Kv

/-! Printed by pr.py: each def computes what its function says. -/
namespace Kv
open PySem PySem.Spec PyProof.Rows L2 GenW
section
variable {P : Program} {w : World} {K : PySem.W.Frag} {mg : Str → Option Value} {base : Heap}
theorem sc_m_functions : FnScope ["self", "found"] ["self"] (defScope (inClass (top 49) 13)) := ⟨rfl, rfl, rfl, by decide +kernel, rfl, by decide +kernel, by decide +kernel⟩
theorem bn_m_functions (c : Fc w K mg) : Binds K c.fd_m_functions ["self"] [] := c.F_m_functions.binds fun _ _ _ _ _ _ us hl => match us, hl with | [_], _ => rfl
theorem dv_m_functions (c : Fc w K mg) {n : Nat} {F : Fs} (G : Gs P base c n F) {A : Around} {outer : List Env} {s : Shared} {H : Hp} {E : XK} (hr : Room (n + 1) (A.deeper (envOfC "Reading.functions" (defScope (inClass (top 49) 13)) s.heap.objs.size c.f_m_functions (.ref c.c_m_functions)))) :
    SSs (cxOf (L2.CX P w) P w K mg base ["self", "found"] "Reading.functions" (defScope (inClass (top 49) 13)) c.f_m_functions (.ref c.c_m_functions) A outer s H E) c.M E (defBody (inClass (top 49) 13)) (b_m_functions F) :=
  have cx : CtxOk (cxOf (L2.CX P w) P w K mg base ["self", "found"] "Reading.functions" (defScope (inClass (top 49) 13)) c.f_m_functions (.ref c.c_m_functions) A outer s H E) E := ctx_of sc_m_functions.nd hr
  have ce := cx.e
  have hr0 := hr.mono (Nat.le_succ n)
  (sss_cons (ss_set (i := 1) cx (se_lst (sa_cons (se_meth0 ce c.cl c.M_m_function hr0 G.G_m_function (se_var 0)) sa_nil)))
    (sss_cons (ss_while 10000 cx (st_lt  (se_fld 2 c.cl c.na2 (se_var 0)) (se_callB call_len ok_len rfl c.b_len PySem.boot_len (sa_cons (se_fld 0 c.cl c.na0 (se_var 0)) sa_nil))) (sss_cons (ss_expr (se_meth ce c.cl c.M_m_need hr0 G.G_m_need (se_var 0) (sa_cons (se_str [59] rfl) sa_nil)))
    (sss_one (ss_expr (se_app (se_var 1) (sa_cons (se_meth0 ce c.cl c.M_m_function hr0 G.G_m_function (se_var 0)) sa_nil))))))
    (sss_one (ss_ret (se_callTy call_tuple_of ok_tuple rfl c.b_tuple (by decide +kernel) (sa_cons (se_var 1) sa_nil))))))
theorem up_m_functions (c : Fc w K mg) {n : Nat} {F : Fs} (G : Gs P base c n F) : FnG P w K mg base c.M (n + 2) c.f_m_functions c.fd_m_functions ["self"] (fsUp F).m_functions := fnG_mk c.F_m_functions sc_m_functions (bn_m_functions c) rfl (fun A outer s H E hr => dv_m_functions c G hr)
theorem sc_read_program : FnScope ["text", "found"] ["text"] (defScope (top 50)) := ⟨rfl, rfl, rfl, by decide +kernel, rfl, by decide +kernel, by decide +kernel⟩
theorem bn_read_program (c : Fc w K mg) : Binds K c.fd_read_program ["text"] [] := c.F_read_program.binds fun _ _ _ _ _ _ us hl => match us, hl with | [_], _ => rfl
theorem dv_read_program (c : Fc w K mg) {n : Nat} {F : Fs} (G : Gs P base c n F) {A : Around} {outer : List Env} {s : Shared} {H : Hp} {E : XK} (hr : Room (n + 1) (A.deeper (envOfC "read_program" (defScope (top 50)) s.heap.objs.size c.f_read_program (.ref c.c_read_program)))) :
    SSs (cxOf (L2.CX P w) P w K mg base ["text", "found"] "read_program" (defScope (top 50)) c.f_read_program (.ref c.c_read_program) A outer s H E) c.M E (defBody (top 50)) (b_read_program F) :=
  have cx : CtxOk (cxOf (L2.CX P w) P w K mg base ["text", "found"] "read_program" (defScope (top 50)) c.f_read_program (.ref c.c_read_program) A outer s H E) E := ctx_of sc_read_program.nd hr
  have ce := cx.e
  have hr0 := hr.mono (Nat.le_succ n)
  (sss_cons (ss_if (st_not (st_val (se_isi Ty.str rfl c.b_isinstance rfl c.b_str (by decide +kernel) (se_var 0)))) (sss_one (ss_raise 1 cx c.x_NotText rfl)) sss_nil)
    (sss_cons (ss_set (i := 1) cx (se_meth0 ce c.cl c.M_m_functions hr0 G.G_m_functions (se_make ce c.mkR hr G.G_m_init rfl c.gC (sa_cons (se_call ce hr0 G.G_words_of rfl c.g_words_of (sa_cons (se_var 0) (sa_cons se_bl sa_nil))) (sa_cons se_bl sa_nil)))))
    (sss_cons (ss_if (st_not (st_val (se_call ce hr0 G.G_is_program rfl c.g_is_program (sa_cons (se_var 1) sa_nil)))) (sss_one (ss_raise 0 cx c.x_InvalidText rfl)) sss_nil)
    (sss_one (ss_ret (se_var 1))))))
theorem up_read_program (c : Fc w K mg) {n : Nat} {F : Fs} (G : Gs P base c n F) : FnG P w K mg base c.M (n + 2) c.f_read_program c.fd_read_program ["text"] (fsUp F).read_program := (fnG_mk c.F_read_program sc_read_program (bn_read_program c) rfl (fun A outer s H E hr => dv_read_program c G hr)).cutF
theorem sc_read_plain : FnScope ["text", "found"] ["text"] (defScope (top 51)) := ⟨rfl, rfl, rfl, by decide +kernel, rfl, by decide +kernel, by decide +kernel⟩
theorem bn_read_plain (c : Fc w K mg) : Binds K c.fd_read_plain ["text"] [] := c.F_read_plain.binds fun _ _ _ _ _ _ us hl => match us, hl with | [_], _ => rfl
theorem dv_read_plain (c : Fc w K mg) {n : Nat} {F : Fs} (G : Gs P base c n F) {A : Around} {outer : List Env} {s : Shared} {H : Hp} {E : XK} (hr : Room (n + 1) (A.deeper (envOfC "read_plain" (defScope (top 51)) s.heap.objs.size c.f_read_plain (.ref c.c_read_plain)))) :
    SSs (cxOf (L2.CX P w) P w K mg base ["text", "found"] "read_plain" (defScope (top 51)) c.f_read_plain (.ref c.c_read_plain) A outer s H E) c.M E (defBody (top 51)) (b_read_plain F) :=
  have cx : CtxOk (cxOf (L2.CX P w) P w K mg base ["text", "found"] "read_plain" (defScope (top 51)) c.f_read_plain (.ref c.c_read_plain) A outer s H E) E := ctx_of sc_read_plain.nd hr
  have ce := cx.e
  have hr0 := hr.mono (Nat.le_succ n)
  (sss_cons (ss_if (st_not (st_val (se_isi Ty.str rfl c.b_isinstance rfl c.b_str (by decide +kernel) (se_var 0)))) (sss_one (ss_raise 1 cx c.x_NotText rfl)) sss_nil)
    (sss_cons (ss_set (i := 1) cx (se_meth0 ce c.cl c.M_m_functions hr0 G.G_m_functions (se_make ce c.mkR hr G.G_m_init rfl c.gC (sa_cons (se_call ce hr0 G.G_words_of rfl c.g_words_of (sa_cons (se_var 0) (sa_cons se_bl sa_nil))) (sa_cons se_bl sa_nil)))))
    (sss_cons (ss_if (st_not (st_val (se_call ce hr0 G.G_is_plain rfl c.g_is_plain (sa_cons (se_var 1) sa_nil)))) (sss_one (ss_raise 0 cx c.x_InvalidText rfl)) sss_nil)
    (sss_one (ss_ret (se_var 1))))))
theorem up_read_plain (c : Fc w K mg) {n : Nat} {F : Fs} (G : Gs P base c n F) : FnG P w K mg base c.M (n + 2) c.f_read_plain c.fd_read_plain ["text"] (fsUp F).read_plain := (fnG_mk c.F_read_plain sc_read_plain (bn_read_plain c) rfl (fun A outer s H E hr => dv_read_plain c G hr)).cutF
theorem sc_write_move : FnScope ["move"] ["move"] (defScope (top 55)) := ⟨rfl, rfl, rfl, by decide +kernel, rfl, by decide +kernel, by decide +kernel⟩
theorem bn_write_move (c : Fc w K mg) : Binds K c.fd_write_move ["move"] [] := c.F_write_move.binds fun _ _ _ _ _ _ us hl => match us, hl with | [_], _ => rfl
theorem dv_write_move (c : Fc w K mg) {n : Nat} {F : Fs} (G : Gs P base c n F) {A : Around} {outer : List Env} {s : Shared} {H : Hp} {E : XK} (hr : Room (n + 1) (A.deeper (envOfC "write_move" (defScope (top 55)) s.heap.objs.size c.f_write_move (.ref c.c_write_move)))) :
    SSs (cxOf (L2.CX P w) P w K mg base ["move"] "write_move" (defScope (top 55)) c.f_write_move (.ref c.c_write_move) A outer s H E) c.M E (defBody (top 55)) (b_write_move F) :=
  have cx : CtxOk (cxOf (L2.CX P w) P w K mg base ["move"] "write_move" (defScope (top 55)) c.f_write_move (.ref c.c_write_move) A outer s H E) E := ctx_of sc_write_move.nd hr
  have ce := cx.e
  have hr0 := hr.mono (Nat.le_succ n)
  (sss_cons (ss_if (st_eq  (se_ixT (se_var 0) se_int) (se_str [103, 105, 118, 101] rfl)) (sss_one (ss_ret (se_callTy call_str_int ok_strI rfl c.b_str (by decide +kernel) (sa_cons (se_ixT (se_var 0) se_int) sa_nil)))) sss_nil)
    (sss_cons (ss_if (st_eq  (se_ixT (se_var 0) se_int) se_int) (sss_one (ss_ret (se_str [101] rfl))) sss_nil)
    (sss_one (ss_ret (se_if (st_gt  (se_ixT (se_var 0) se_int) se_int) (se_joined (sj_cons (se_str [101, 32, 43, 32] rfl) (sj_cons (se_fmt (se_ixT (se_var 0) se_int)) sj_nil))) (se_joined (sj_cons (se_str [101, 32, 45, 32] rfl) (sj_cons (se_fmt (se_sub se_int (se_ixT (se_var 0) se_int))) sj_nil))))))))
theorem up_write_move (c : Fc w K mg) {n : Nat} {F : Fs} (G : Gs P base c n F) : FnG P w K mg base c.M (n + 2) c.f_write_move c.fd_write_move ["move"] (fsUp F).write_move := fnG_mk c.F_write_move sc_write_move (bn_write_move c) rfl (fun A outer s H E hr => dv_write_move c G hr)
theorem sc_write_test : FnScope ["test"] ["test"] (defScope (top 56)) := ⟨rfl, rfl, rfl, by decide +kernel, rfl, by decide +kernel, by decide +kernel⟩
theorem bn_write_test (c : Fc w K mg) : Binds K c.fd_write_test ["test"] [] := c.F_write_test.binds fun _ _ _ _ _ _ us hl => match us, hl with | [_], _ => rfl
theorem dv_write_test (c : Fc w K mg) {n : Nat} {F : Fs} (G : Gs P base c n F) {A : Around} {outer : List Env} {s : Shared} {H : Hp} {E : XK} (hr : Room (n + 1) (A.deeper (envOfC "write_test" (defScope (top 56)) s.heap.objs.size c.f_write_test (.ref c.c_write_test)))) :
    SSs (cxOf (L2.CX P w) P w K mg base ["test"] "write_test" (defScope (top 56)) c.f_write_test (.ref c.c_write_test) A outer s H E) c.M E (defBody (top 56)) (b_write_test F) :=
  have cx : CtxOk (cxOf (L2.CX P w) P w K mg base ["test"] "write_test" (defScope (top 56)) c.f_write_test (.ref c.c_write_test) A outer s H E) E := ctx_of sc_write_test.nd hr
  have ce := cx.e
  have hr0 := hr.mono (Nat.le_succ n)
  (sss_cons (ss_if (st_eq  (se_ixT (se_var 0) se_int) (se_str [98, 101, 108, 111, 119] rfl)) (sss_one (ss_ret (se_joined (sj_cons (se_str [101, 32, 60, 32] rfl) (sj_cons (se_fmt (se_ixT (se_var 0) se_int)) sj_nil))))) sss_nil)
    (sss_cons (ss_if (st_eq  (se_ixT (se_var 0) se_int) (se_str [114, 101, 115, 116] rfl)) (sss_one (ss_ret (se_joined (sj_cons (se_str [101, 32, 109, 111, 100, 32] rfl) (sj_cons (se_fmt (se_ixT (se_var 0) se_int)) (sj_cons (se_str [32, 61, 32] rfl) (sj_cons (se_fmt (se_ixT (se_var 0) se_int)) sj_nil))))))) sss_nil)
    (sss_one (ss_ret (se_joined (sj_cons (se_fmt (se_call ce hr0 G.G_write_one rfl c.g_write_one (sa_cons (se_ixT (se_var 0) se_int) sa_nil))) (sj_cons (se_str [32, 60, 32] rfl) (sj_cons (se_fmt (se_call ce hr0 G.G_write_one rfl c.g_write_one (sa_cons (se_ixT (se_var 0) se_int) sa_nil))) sj_nil))))))))
theorem up_write_test (c : Fc w K mg) {n : Nat} {F : Fs} (G : Gs P base c n F) : FnG P w K mg base c.M (n + 2) c.f_write_test c.fd_write_test ["test"] (fsUp F).write_test := fnG_mk c.F_write_test sc_write_test (bn_write_test c) rfl (fun A outer s H E hr => dv_write_test c G hr)
theorem sc_write_call : FnScope ["one", "some", "part"] ["one"] (defScope (top 57)) := ⟨rfl, rfl, rfl, by decide +kernel, rfl, by decide +kernel, by decide +kernel⟩
theorem bn_write_call (c : Fc w K mg) : Binds K c.fd_write_call ["one"] [] := c.F_write_call.binds fun _ _ _ _ _ _ us hl => match us, hl with | [_], _ => rfl
theorem dv_write_call (c : Fc w K mg) {n : Nat} {F : Fs} (G : Gs P base c n F) {A : Around} {outer : List Env} {s : Shared} {H : Hp} {E : XK} (hr : Room (n + 1) (A.deeper (envOfC "write_call" (defScope (top 57)) s.heap.objs.size c.f_write_call (.ref c.c_write_call)))) :
    SSs (cxOf (L2.CX P w) P w K mg base ["one", "some", "part"] "write_call" (defScope (top 57)) c.f_write_call (.ref c.c_write_call) A outer s H E) c.M E (defBody (top 57)) (b_write_call F) :=
  have cx : CtxOk (cxOf (L2.CX P w) P w K mg base ["one", "some", "part"] "write_call" (defScope (top 57)) c.f_write_call (.ref c.c_write_call) A outer s H E) E := ctx_of sc_write_call.nd hr
  have ce := cx.e
  have hr0 := hr.mono (Nat.le_succ n)
  (sss_cons (ss_set (i := 1) cx (se_jn (se_str [44, 32] rfl) (se_lc (own := [("part", 2)]) (vs := [2]) 10000 ce (by exact (show BlkOk ["one", "some", "part"] (defScope (top 57)) _ _ from ⟨rfl, by decide +kernel, by decide +kernel, by decide +kernel, by decide +kernel⟩)) rfl (si_tup (se_ixT (se_var 0) (se_neg se_int))) (fun _ _ _ _ _ => (sg_name 2 ce.nd)) (fun _ _ _ _ _ => (se_call (CtxE.blk ce) hr0 G.G_write_one rfl c.g_write_one (sa_cons (se_var 2) sa_nil))))))
    (sss_cons (ss_if (st_eq  (se_callB call_len ok_len rfl c.b_len PySem.boot_len (sa_cons (se_var 0) sa_nil)) se_int) (sss_one (ss_ret (se_joined (sj_cons (se_fmt (se_ixT (se_var 0) se_int)) (sj_cons (se_str [40] rfl) (sj_cons (se_fmt (se_var 1)) (sj_cons (se_str [41] rfl) sj_nil))))))) sss_nil)
    (sss_one (ss_ret (se_if (st_tru (se_var 1)) (se_joined (sj_cons (se_fmt (se_ixT (se_var 0) se_int)) (sj_cons (se_str [40] rfl) (sj_cons (se_fmt (se_call ce hr0 G.G_write_move rfl c.g_write_move (sa_cons (se_ixT (se_var 0) se_int) sa_nil))) (sj_cons (se_str [32, 124, 32] rfl) (sj_cons (se_fmt (se_var 1)) (sj_cons (se_str [41] rfl) sj_nil))))))) (se_joined (sj_cons (se_fmt (se_ixT (se_var 0) se_int)) (sj_cons (se_str [40] rfl) (sj_cons (se_fmt (se_call ce hr0 G.G_write_move rfl c.g_write_move (sa_cons (se_ixT (se_var 0) se_int) sa_nil))) (sj_cons (se_str [41] rfl) sj_nil))))))))))
theorem up_write_call (c : Fc w K mg) {n : Nat} {F : Fs} (G : Gs P base c n F) : FnG P w K mg base c.M (n + 2) c.f_write_call c.fd_write_call ["one"] (fsUp F).write_call := fnG_mk c.F_write_call sc_write_call (bn_write_call c) rfl (fun A outer s H E hr => dv_write_call c G hr)
theorem sc_write_one : FnScope ["one"] ["one"] (defScope (top 58)) := ⟨rfl, rfl, rfl, by decide +kernel, rfl, by decide +kernel, by decide +kernel⟩
theorem bn_write_one (c : Fc w K mg) : Binds K c.fd_write_one ["one"] [] := c.F_write_one.binds fun _ _ _ _ _ _ us hl => match us, hl with | [_], _ => rfl
theorem dv_write_one (c : Fc w K mg) {n : Nat} {F : Fs} (G : Gs P base c n F) {A : Around} {outer : List Env} {s : Shared} {H : Hp} {E : XK} (hr : Room (n + 1) (A.deeper (envOfC "write_one" (defScope (top 58)) s.heap.objs.size c.f_write_one (.ref c.c_write_one)))) :
    SSs (cxOf (L2.CX P w) P w K mg base ["one"] "write_one" (defScope (top 58)) c.f_write_one (.ref c.c_write_one) A outer s H E) c.M E (defBody (top 58)) (b_write_one F) :=
  have cx : CtxOk (cxOf (L2.CX P w) P w K mg base ["one"] "write_one" (defScope (top 58)) c.f_write_one (.ref c.c_write_one) A outer s H E) E := ctx_of sc_write_one.nd hr
  have ce := cx.e
  have hr0 := hr.mono (Nat.le_succ n)
  (sss_cons (ss_if (st_eq  (se_ixT (se_var 0) se_int) (se_str [110, 117, 109, 98, 101, 114] rfl)) (sss_one (ss_ret (se_callTy call_str_int ok_strI rfl c.b_str (by decide +kernel) (sa_cons (se_ixT (se_var 0) se_int) sa_nil)))) sss_nil)
    (sss_cons (ss_if (st_eq  (se_ixT (se_var 0) se_int) (se_str [101, 97, 114, 108, 121] rfl)) (sss_one (ss_ret (se_str [101] rfl))) sss_nil)
    (sss_cons (ss_if (st_eq  (se_ixT (se_var 0) se_int) (se_str [108, 97, 116, 101] rfl)) (sss_one (ss_ret (se_ixS (se_glob rfl c.mg_LATES_texts c.gi_LATES_texts) (se_ixT (se_var 0) se_int)))) sss_nil)
    (sss_cons (ss_if (st_eq  (se_ixT (se_var 0) se_int) (se_str [99, 97, 108, 108] rfl)) (sss_one (ss_ret (se_call ce hr0 G.G_write_call rfl c.g_write_call (sa_cons (se_var 0) sa_nil)))) sss_nil)
    (sss_cons (ss_if (st_eq  (se_ixT (se_var 0) se_int) (se_str [105, 102] rfl)) (sss_one (ss_ret (se_joined (sj_cons (se_str [40, 105, 102, 32] rfl) (sj_cons (se_fmt (se_call ce hr0 G.G_write_test rfl c.g_write_test (sa_cons (se_ixT (se_var 0) se_int) sa_nil))) (sj_cons (se_str [32, 116, 104, 101, 110, 32] rfl) (sj_cons (se_fmt (se_call ce hr0 G.G_write_one rfl c.g_write_one (sa_cons (se_ixT (se_var 0) se_int) sa_nil))) (sj_cons (se_str [32, 101, 108, 115, 101, 32] rfl) (sj_cons (se_fmt (se_call ce hr0 G.G_write_one rfl c.g_write_one (sa_cons (se_ixT (se_var 0) se_int) sa_nil))) (sj_cons (se_str [41] rfl) sj_nil)))))))))) sss_nil)
    (sss_one (ss_ret (se_joined (sj_cons (se_str [40] rfl) (sj_cons (se_fmt (se_call ce hr0 G.G_write_one rfl c.g_write_one (sa_cons (se_ixT (se_var 0) se_int) sa_nil))) (sj_cons (se_str [32] rfl) (sj_cons (se_fmt (se_ixKD rfl c.g_SIGNS c.kd_SIGNS (se_ixT (se_var 0) se_int))) (sj_cons (se_str [32] rfl) (sj_cons (se_fmt (se_call ce hr0 G.G_write_one rfl c.g_write_one (sa_cons (se_ixT (se_var 0) se_int) sa_nil))) (sj_cons (se_str [41] rfl) sj_nil)))))))))))))))
theorem up_write_one (c : Fc w K mg) {n : Nat} {F : Fs} (G : Gs P base c n F) : FnG P w K mg base c.M (n + 2) c.f_write_one c.fd_write_one ["one"] (fsUp F).write_one := (fnG_mk c.F_write_one sc_write_one (bn_write_one c) rfl (fun A outer s H E hr => dv_write_one c G hr)).cutF
theorem sc_write_program : FnScope ["program", "found", "name", "lates", "body", "some"] ["program"] (defScope (top 59)) := ⟨rfl, rfl, rfl, by decide +kernel, rfl, by decide +kernel, by decide +kernel⟩
theorem bn_write_program (c : Fc w K mg) : Binds K c.fd_write_program ["program"] [] := c.F_write_program.binds fun _ _ _ _ _ _ us hl => match us, hl with | [_], _ => rfl
theorem dv_write_program (c : Fc w K mg) {n : Nat} {F : Fs} (G : Gs P base c n F) {A : Around} {outer : List Env} {s : Shared} {H : Hp} {E : XK} (hr : Room (n + 1) (A.deeper (envOfC "write_program" (defScope (top 59)) s.heap.objs.size c.f_write_program (.ref c.c_write_program)))) :
    SSs (cxOf (L2.CX P w) P w K mg base ["program", "found", "name", "lates", "body", "some"] "write_program" (defScope (top 59)) c.f_write_program (.ref c.c_write_program) A outer s H E) c.M E (defBody (top 59)) (b_write_program F) :=
  have cx : CtxOk (cxOf (L2.CX P w) P w K mg base ["program", "found", "name", "lates", "body", "some"] "write_program" (defScope (top 59)) c.f_write_program (.ref c.c_write_program) A outer s H E) E := ctx_of sc_write_program.nd hr
  have ce := cx.e
  have hr0 := hr.mono (Nat.le_succ n)
  (sss_cons (ss_expr (se_call ce hr0 G.G_need_program rfl c.g_need_program (sa_cons (se_var 0) sa_nil)))
    (sss_cons (ss_set (i := 1) cx (se_lst sa_nil))
    (sss_cons (ss_for (vs := [2, 3, 4]) 10000 cx (si_tup (se_var 0)) (sg_tup ce.calm (sgs_cons (sg_name 2 ce.nd) (sgs_cons (sg_name 3 ce.nd) (sgs_cons (sg_name 4 ce.nd) sgs_nil)))) (sss_cons (ss_set (i := 5) cx (se_jns ce (se_str [44, 32] rfl) (se_slS (se_glob rfl c.mg_LATES_texts c.gi_LATES_texts) sn_none (sn_some (se_var 3)))))
    (sss_one (ss_expr (se_app (se_var 1) (sa_cons (se_if (st_tru (se_var 5)) (se_joined (sj_cons (se_fmt (se_var 2)) (sj_cons (se_str [40, 101, 32, 124, 32] rfl) (sj_cons (se_fmt (se_var 5)) (sj_cons (se_str [41, 32, 61, 32] rfl) (sj_cons (se_fmt (se_call ce hr0 G.G_write_one rfl c.g_write_one (sa_cons (se_var 4) sa_nil))) sj_nil)))))) (se_joined (sj_cons (se_fmt (se_var 2)) (sj_cons (se_str [40, 101, 41, 32, 61, 32] rfl) (sj_cons (se_fmt (se_call ce hr0 G.G_write_one rfl c.g_write_one (sa_cons (se_var 4) sa_nil))) sj_nil))))) sa_nil))))))
    (sss_one (ss_ret (se_jn (se_str [59, 32] rfl) (se_var 1)))))))
theorem up_write_program (c : Fc w K mg) {n : Nat} {F : Fs} (G : Gs P base c n F) : FnG P w K mg base c.M (n + 2) c.f_write_program c.fd_write_program ["program"] (fsUp F).write_program := (fnG_mk c.F_write_program sc_write_program (bn_write_program c) rfl (fun A outer s H E hr => dv_write_program c G hr)).cutF
theorem sc_write_plain : FnScope ["plain", "found", "name", "lates", "body", "some"] ["plain"] (defScope (top 60)) := ⟨rfl, rfl, rfl, by decide +kernel, rfl, by decide +kernel, by decide +kernel⟩
theorem bn_write_plain (c : Fc w K mg) : Binds K c.fd_write_plain ["plain"] [] := c.F_write_plain.binds fun _ _ _ _ _ _ us hl => match us, hl with | [_], _ => rfl
theorem dv_write_plain (c : Fc w K mg) {n : Nat} {F : Fs} (G : Gs P base c n F) {A : Around} {outer : List Env} {s : Shared} {H : Hp} {E : XK} (hr : Room (n + 1) (A.deeper (envOfC "write_plain" (defScope (top 60)) s.heap.objs.size c.f_write_plain (.ref c.c_write_plain)))) :
    SSs (cxOf (L2.CX P w) P w K mg base ["plain", "found", "name", "lates", "body", "some"] "write_plain" (defScope (top 60)) c.f_write_plain (.ref c.c_write_plain) A outer s H E) c.M E (defBody (top 60)) (b_write_plain F) :=
  have cx : CtxOk (cxOf (L2.CX P w) P w K mg base ["plain", "found", "name", "lates", "body", "some"] "write_plain" (defScope (top 60)) c.f_write_plain (.ref c.c_write_plain) A outer s H E) E := ctx_of sc_write_plain.nd hr
  have ce := cx.e
  have hr0 := hr.mono (Nat.le_succ n)
  (sss_cons (ss_expr (se_call ce hr0 G.G_need_plain rfl c.g_need_plain (sa_cons (se_var 0) sa_nil)))
    (sss_cons (ss_set (i := 1) cx (se_lst sa_nil))
    (sss_cons (ss_for (vs := [2, 3, 4]) 10000 cx (si_tup (se_var 0)) (sg_tup ce.calm (sgs_cons (sg_name 2 ce.nd) (sgs_cons (sg_name 3 ce.nd) (sgs_cons (sg_name 4 ce.nd) sgs_nil)))) (sss_cons (ss_set (i := 5) cx (se_jns ce (se_str [44, 32] rfl) (se_slS (se_glob rfl c.mg_LATES_texts c.gi_LATES_texts) sn_none (sn_some (se_var 3)))))
    (sss_one (ss_expr (se_app (se_var 1) (sa_cons (se_joined (sj_cons (se_fmt (se_var 2)) (sj_cons (se_str [40] rfl) (sj_cons (se_fmt (se_var 5)) (sj_cons (se_str [41, 32, 61, 32] rfl) (sj_cons (se_fmt (se_call ce hr0 G.G_write_one rfl c.g_write_one (sa_cons (se_var 4) sa_nil))) sj_nil)))))) sa_nil))))))
    (sss_one (ss_ret (se_jn (se_str [59, 32] rfl) (se_var 1)))))))
theorem up_write_plain (c : Fc w K mg) {n : Nat} {F : Fs} (G : Gs P base c n F) : FnG P w K mg base c.M (n + 2) c.f_write_plain c.fd_write_plain ["plain"] (fsUp F).write_plain := (fnG_mk c.F_write_plain sc_write_plain (bn_write_plain c) rfl (fun A outer s H E hr => dv_write_plain c G hr)).cutF
theorem sc__law_taken : FnScope ["_law_row", "_law_many", "_law_cell", "_law_found"] ["_law_row", "_law_many"] (defScope (top 62)) := ⟨rfl, rfl, rfl, by decide +kernel, rfl, by decide +kernel, by decide +kernel⟩
theorem bn__law_taken (c : Fc w K mg) : Binds K c.fd__law_taken ["_law_row", "_law_many"] [] := c.F__law_taken.binds fun _ _ _ _ _ _ us hl => match us, hl with | [_, _], _ => rfl
theorem dv__law_taken (c : Fc w K mg) {n : Nat} {F : Fs} (G : Gs P base c n F) {A : Around} {outer : List Env} {s : Shared} {H : Hp} {E : XK} (hr : Room (n + 1) (A.deeper (envOfC "_law_taken" (defScope (top 62)) s.heap.objs.size c.f__law_taken (.ref c.c__law_taken)))) :
    SSs (cxOf (L2.CX P w) P w K mg base ["_law_row", "_law_many", "_law_cell", "_law_found"] "_law_taken" (defScope (top 62)) c.f__law_taken (.ref c.c__law_taken) A outer s H E) c.M E (defBody (top 62)) (b__law_taken F) :=
  have cx : CtxOk (cxOf (L2.CX P w) P w K mg base ["_law_row", "_law_many", "_law_cell", "_law_found"] "_law_taken" (defScope (top 62)) c.f__law_taken (.ref c.c__law_taken) A outer s H E) E := ctx_of sc__law_taken.nd hr
  have ce := cx.e
  have hr0 := hr.mono (Nat.le_succ n)
  (sss_cons (ss_if (st_gt  (se_ixL (se_var 0) se_int) se_int) (sss_cons (ss_set (i := 3) cx (se_mod (se_callTy call_int1 ok_intI rfl c.b_int (by decide +kernel) (sa_cons (se_ixL (se_var 0) se_int) sa_nil)) (se_var 1)))
    (sss_cons (ss_sub (se_fdiv (se_ixL (se_var 0) se_int) (se_var 1)) (se_var 0) se_int)
    (sss_one (ss_ret (se_var 3))))) sss_nil)
    (sss_cons (ss_sub (se_add (se_ixL (se_var 0) se_int) se_int) (se_var 0) se_int)
    (sss_cons (ss_if (st_gt  (se_ixL (se_var 0) se_int) (se_callB call_len ok_len rfl c.b_len PySem.boot_len (sa_cons (se_ixL (se_var 0) se_int) sa_nil))) (sss_cons (ss_sub (se_mod (se_callTy call_int1 ok_intI rfl c.b_int (by decide +kernel) (sa_cons (se_add (se_mul (se_ixL (se_var 0) se_int) se_int) se_int) sa_nil)) se_int) (se_var 0) se_int)
    (sss_one (ss_ret (se_mod (se_callTy call_int1 ok_intI rfl c.b_int (by decide +kernel) (sa_cons (se_fdiv (se_ixL (se_var 0) se_int) se_int) sa_nil)) (se_var 1))))) sss_nil)
    (sss_cons (ss_set (i := 2) cx (se_ixL (se_ixL (se_var 0) se_int) (se_sub (se_ixL (se_var 0) se_int) se_int)))
    (sss_cons (ss_sub (se_mod (se_callTy call_int1 ok_intI rfl c.b_int (by decide +kernel) (sa_cons (se_add (se_add (se_mul (se_ixL (se_var 0) se_int) se_int) (se_var 2)) se_int) sa_nil)) se_int) (se_var 0) se_int)
    (sss_cons (ss_if (st_ge  (se_var 2) (se_pow se_int se_int)) (sss_one (ss_sub (se_fdiv (se_var 2) (se_var 1)) (se_var 0) se_int)) sss_nil)
    (sss_one (ss_ret (se_mod (se_callTy call_int1 ok_intI rfl c.b_int (by decide +kernel) (sa_cons (se_var 2) sa_nil)) (se_var 1))))))))))
theorem up__law_taken (c : Fc w K mg) {n : Nat} {F : Fs} (G : Gs P base c n F) : FnG P w K mg base c.M (n + 2) c.f__law_taken c.fd__law_taken ["_law_row", "_law_many"] (fsUp F)._law_taken := fnG_mk c.F__law_taken sc__law_taken (bn__law_taken c) rfl (fun A outer s H E hr => dv__law_taken c G hr)
theorem sc__law_pick : FnScope ["_law_row", "_law_things"] ["_law_row", "_law_things"] (defScope (top 63)) := ⟨rfl, rfl, rfl, by decide +kernel, rfl, by decide +kernel, by decide +kernel⟩
theorem bn__law_pick (c : Fc w K mg) : Binds K c.fd__law_pick ["_law_row", "_law_things"] [] := c.F__law_pick.binds fun _ _ _ _ _ _ us hl => match us, hl with | [_, _], _ => rfl
theorem dv__law_pick (c : Fc w K mg) {n : Nat} {F : Fs} (G : Gs P base c n F) {A : Around} {outer : List Env} {s : Shared} {H : Hp} {E : XK} (hr : Room (n + 1) (A.deeper (envOfC "_law_pick" (defScope (top 63)) s.heap.objs.size c.f__law_pick (.ref c.c__law_pick)))) :
    SSs (cxOf (L2.CX P w) P w K mg base ["_law_row", "_law_things"] "_law_pick" (defScope (top 63)) c.f__law_pick (.ref c.c__law_pick) A outer s H E) c.M E (defBody (top 63)) (b__law_pick F) :=
  have cx : CtxOk (cxOf (L2.CX P w) P w K mg base ["_law_row", "_law_things"] "_law_pick" (defScope (top 63)) c.f__law_pick (.ref c.c__law_pick) A outer s H E) E := ctx_of sc__law_pick.nd hr
  have ce := cx.e
  have hr0 := hr.mono (Nat.le_succ n)
  (sss_one (ss_ret (se_ixL (se_var 1) (se_call ce hr0 G.G__law_taken rfl c.g__law_taken (sa_cons (se_var 0) (sa_cons (se_callB call_len ok_len rfl c.b_len PySem.boot_len (sa_cons (se_var 1) sa_nil)) sa_nil))))))
theorem up__law_pick (c : Fc w K mg) {n : Nat} {F : Fs} (G : Gs P base c n F) : FnG P w K mg base c.M (n + 2) c.f__law_pick c.fd__law_pick ["_law_row", "_law_things"] (fsUp F)._law_pick := fnG_mk c.F__law_pick sc__law_pick (bn__law_pick c) rfl (fun A outer s H E hr => dv__law_pick c G hr)
end
end Kv

/-! Printed by pr.py: all defs at every level. -/
namespace Kv
open PySem PySem.Spec PyProof.Rows L2 GenW
section
variable {P : Program} {w : World} {K : PySem.W.Frag} {mg : Str → Option Value} {base : Heap}
theorem gs_all (c : Fc w K mg) (TB : Tb base c) : ∀ n : Nat, Gs P base c (2 * n) (fsN n)
  | 0 => ⟨fnG_bad c.F_is_in (bn_is_in c), fnG_bad c.F_is_name (bn_is_name c), fnG_bad c.F_is_tuple (bn_is_tuple c), fnG_bad c.F_is_move (bn_is_move c), fnG_bad c.F_is_test (bn_is_test c), fnG_bad c.F_is_expression (bn_is_expression c), fnG_bad c.F_parts_of (bn_parts_of c), fnG_bad c.F_is_all_early (bn_is_all_early c), fnG_bad c.F_nodes_of (bn_nodes_of c), fnG_bad c.F_calls_of (bn_calls_of c), fnG_bad c.F_is_function (bn_is_function c), fnG_bad c.F_is_program (bn_is_program c), fnG_bad c.F_need_program (bn_need_program c), fnG_bad c.F_point_of (bn_point_of c), fnG_bad c.F_is_plain_expression (bn_is_plain_expression c), fnG_bad c.F_is_plain_function (bn_is_plain_function c), fnG_bad c.F_is_plain (bn_is_plain c), fnG_bad c.F_need_plain (bn_need_plain c), fnG_bad c.F_row_end (bn_row_end c), fnG_bad c.F_words_of (bn_words_of c), fnG_bad c.F_m_init (bn_m_init c), fnG_bad c.F_m_look (bn_m_look c), fnG_bad c.F_m_next (bn_m_next c), fnG_bad c.F_m_need (bn_m_need c), fnG_bad c.F_m_number (bn_m_number c), fnG_bad c.F_m_move (bn_m_move c), fnG_bad c.F_m_some (bn_m_some c), fnG_bad c.F_m_call (bn_m_call c), fnG_bad c.F_m_test (bn_m_test c), fnG_bad c.F_m_inside (bn_m_inside c), fnG_bad c.F_m_expression (bn_m_expression c), fnG_bad c.F_m_function (bn_m_function c), fnG_bad c.F_m_letters (bn_m_letters c), fnG_bad c.F_m_functions (bn_m_functions c), fnG_bad c.F_read_program (bn_read_program c), fnG_bad c.F_read_plain (bn_read_plain c), fnG_bad c.F_write_move (bn_write_move c), fnG_bad c.F_write_test (bn_write_test c), fnG_bad c.F_write_call (bn_write_call c), fnG_bad c.F_write_one (bn_write_one c), fnG_bad c.F_write_program (bn_write_program c), fnG_bad c.F_write_plain (bn_write_plain c), fnG_bad c.F__law_taken (bn__law_taken c), fnG_bad c.F__law_pick (bn__law_pick c)⟩
  | n + 1 => ⟨up_is_in c (gs_all c TB n), up_is_name c TB (gs_all c TB n), up_is_tuple c (gs_all c TB n), up_is_move c (gs_all c TB n), up_is_test c TB (gs_all c TB n), up_is_expression c TB (gs_all c TB n), up_parts_of c (gs_all c TB n), up_is_all_early c TB (gs_all c TB n), up_nodes_of c TB (gs_all c TB n), up_calls_of c (gs_all c TB n), up_is_function c (gs_all c TB n), up_is_program c TB (gs_all c TB n), up_need_program c (gs_all c TB n), up_point_of c TB (gs_all c TB n), up_is_plain_expression c TB (gs_all c TB n), up_is_plain_function c (gs_all c TB n), up_is_plain c TB (gs_all c TB n), up_need_plain c (gs_all c TB n), up_row_end c (gs_all c TB n), up_words_of c (gs_all c TB n), up_m_init c (gs_all c TB n), up_m_look c (gs_all c TB n), up_m_next c (gs_all c TB n), up_m_need c (gs_all c TB n), up_m_number c (gs_all c TB n), up_m_move c (gs_all c TB n), up_m_some c (gs_all c TB n), up_m_call c (gs_all c TB n), up_m_test c (gs_all c TB n), up_m_inside c (gs_all c TB n), up_m_expression c (gs_all c TB n), up_m_function c (gs_all c TB n), up_m_letters c (gs_all c TB n), up_m_functions c (gs_all c TB n), up_read_program c (gs_all c TB n), up_read_plain c (gs_all c TB n), up_write_move c (gs_all c TB n), up_write_test c (gs_all c TB n), up_write_call c (gs_all c TB n), up_write_one c (gs_all c TB n), up_write_program c (gs_all c TB n), up_write_plain c (gs_all c TB n), up__law_taken c (gs_all c TB n), up__law_pick c (gs_all c TB n)⟩
end
end Kv

/-! Printed by pr.py: the law. -/
namespace Kv
open PySem PySem.Spec PyProof.Rows L2 GenW
section
variable {P : Program} {w : World} {K : PySem.W.Frag} {mg : Str → Option Value} {base : Heap}
def st1 : Stmt := (defBody (top 66)).getD 0 (.Pass ⟨0, 0, 0, 0⟩)
def st2 : Stmt := (defBody (top 66)).getD 1 (.Pass ⟨0, 0, 0, 0⟩)
def stR : List Stmt := (defBody (top 66)).drop 2
theorem sc_law : FnScope ["_law_script", "_law_row", "_law_space", "_law_bad", "_law_text", "_law_good", "_law_value", "_law_words", "_law_told_here"] ["_law_script"] (defScope (top 66)) := ⟨rfl, rfl, rfl, by decide +kernel, rfl, by decide +kernel, by decide +kernel⟩
theorem bn_law (c : Fc w K mg) : Binds K c.fd_law ["_law_script"] [] := c.F_law.binds fun _ _ _ _ _ _ us hl => match us, hl with | [_], _ => rfl
theorem dv_law1 (c : Fc w K mg) (TB : Tb base c) {n : Nat} {F : Fs} (G : Gs P base c n F) {A : Around} {outer : List Env} {s : Shared} {H : Hp} {E : XK} (hr : Room (n + 3) (A.deeper (envOfC "law" (defScope (top 66)) s.heap.objs.size c.f_law (.ref c.c_law)))) :
    SS (cxOf (L2.CX P w) P w K mg base ["_law_script", "_law_row", "_law_space", "_law_bad", "_law_text", "_law_good", "_law_value", "_law_words", "_law_told_here"] "law" (defScope (top 66)) c.f_law (.ref c.c_law) A outer s H E) c.M E st1 (b_law1 F) :=
  have cx : CtxOk (cxOf (L2.CX P w) P w K mg base ["_law_script", "_law_row", "_law_space", "_law_bad", "_law_text", "_law_good", "_law_value", "_law_words", "_law_told_here"] "law" (defScope (top 66)) c.f_law (.ref c.c_law) A outer s H E) E := ctx_of sc_law.nd hr
  have ce := cx.e
  have hr0 := hr.mono (show n ≤ n + 3 by omega)
  have hrT := hr.mono (show n + 2 ≤ n + 3 by omega)
  (ss_set (i := 1) cx (se_lst (sa_cons (se_var 0) (sa_cons se_int (sa_cons se_int (sa_cons se_int sa_nil))))))
theorem dv_law2 (c : Fc w K mg) (TB : Tb base c) {n : Nat} {F : Fs} (G : Gs P base c n F) {A : Around} {outer : List Env} {s : Shared} {H : Hp} {E : XK} (hr : Room (n + 3) (A.deeper (envOfC "law" (defScope (top 66)) s.heap.objs.size c.f_law (.ref c.c_law)))) :
    SS (cxOf (L2.CX P w) P w K mg base ["_law_script", "_law_row", "_law_space", "_law_bad", "_law_text", "_law_good", "_law_value", "_law_words", "_law_told_here"] "law" (defScope (top 66)) c.f_law (.ref c.c_law) A outer s H E) c.M E st2 (b_law2 F) :=
  have cx : CtxOk (cxOf (L2.CX P w) P w K mg base ["_law_script", "_law_row", "_law_space", "_law_bad", "_law_text", "_law_good", "_law_value", "_law_words", "_law_told_here"] "law" (defScope (top 66)) c.f_law (.ref c.c_law) A outer s H E) E := ctx_of sc_law.nd hr
  have ce := cx.e
  have hr0 := hr.mono (show n ≤ n + 3 by omega)
  have hrT := hr.mono (show n + 2 ≤ n + 3 by omega)
  (ss_set (i := 2) cx (se_call ce hr0 G.G__law_pick rfl c.g__law_pick (sa_cons (se_var 1) (sa_cons (se_lst (sa_cons (se_str [] rfl) (sa_cons (se_str [32] rfl) (sa_cons (se_str [32, 32, 32] rfl) sa_nil)))) sa_nil))))
theorem dv_lawR (c : Fc w K mg) (TB : Tb base c) {n : Nat} {F : Fs} (G : Gs P base c n F) {A : Around} {outer : List Env} {s : Shared} {H : Hp} {E : XK} (hr : Room (n + 3) (A.deeper (envOfC "law" (defScope (top 66)) s.heap.objs.size c.f_law (.ref c.c_law)))) :
    SSs (cxOf (L2.CX P w) P w K mg base ["_law_script", "_law_row", "_law_space", "_law_bad", "_law_text", "_law_good", "_law_value", "_law_words", "_law_told_here"] "law" (defScope (top 66)) c.f_law (.ref c.c_law) A outer s H E) c.M E stR (b_lawR F) :=
  have cx : CtxOk (cxOf (L2.CX P w) P w K mg base ["_law_script", "_law_row", "_law_space", "_law_bad", "_law_text", "_law_good", "_law_value", "_law_words", "_law_told_here"] "law" (defScope (top 66)) c.f_law (.ref c.c_law) A outer s H E) E := ctx_of sc_law.nd hr
  have ce := cx.e
  have hr0 := hr.mono (show n ≤ n + 3 by omega)
  have hrT := hr.mono (show n + 2 ≤ n + 3 by omega)
  (sss_tok (i := 3) (cs := []) cx (sa_cons (se_str [32] rfl) (sa_cons (se_str [102] rfl) (sa_cons (se_str [102, 40, 101, 41] rfl) (sa_cons (se_str [102, 40, 101, 41, 32, 61] rfl) (sa_cons (se_str [102, 40, 101, 41, 32, 61, 32, 49, 59] rfl) (sa_cons (se_str [102, 40, 101, 41, 32, 61, 32, 49, 59, 32, 102, 40, 101, 41, 32, 61, 32, 50] rfl) (sa_cons (se_str [102, 40, 97, 41, 32, 61, 32, 49] rfl) (sa_cons (se_str [102, 40, 101, 124, 41, 32, 61, 32, 49] rfl) (sa_cons (se_str [102, 40, 101, 32, 124, 32, 98, 41, 32, 61, 32, 98] rfl) sa_nil))))))))) rfl
    (ssst_cons (SS.t (ss_set (i := 3) cx (se_catL (se_var 3) (se_lst (sa_cons (se_str [102, 40, 101, 32, 124, 32, 97, 44, 32, 99, 41, 32, 61, 32, 97] rfl) (sa_cons (se_str [102, 40, 101, 32, 124, 32, 97, 44, 32, 97, 41, 32, 61, 32, 97] rfl) sa_nil))))))
    (ssst_cons (SS.t (ss_set (i := 3) cx (se_catL (se_var 3) (se_lst (sa_cons (se_str [102, 40, 101, 32, 124, 32, 97, 44, 41, 32, 61, 32, 97] rfl) (sa_cons (se_str [102, 40, 101, 41, 32, 61, 32, 97] rfl) (sa_cons (se_str [102, 40, 101, 41, 32, 61, 32, 40, 49, 32, 43, 32, 50] rfl) (sa_cons (se_str [102, 40, 101, 41, 32, 61, 32, 49, 32, 43, 32, 50] rfl) (sa_cons (se_str [102, 40, 101, 41, 32, 61, 32, 40, 49, 41] rfl) (sa_cons (se_str [102, 40, 101, 41, 32, 61, 32, 40, 49, 32, 47, 32, 50, 41] rfl) sa_nil))))))))))
    (ssst_cons (SS.t (ss_set (i := 3) cx (se_catL (se_var 3) (se_lst (sa_cons (se_str [102, 40, 101, 41, 32, 61, 32, 40, 49, 32, 43, 32, 50, 32, 43, 32, 51, 41] rfl) (sa_cons (se_str [102, 40, 101, 41, 32, 61, 32, 40, 105, 102, 32, 101, 32, 60, 32, 49, 32, 116, 104, 101, 110, 32, 50, 41] rfl) (sa_cons (se_str [102, 40, 101, 41, 32, 61, 32, 105, 102, 32, 101, 32, 60, 32, 49, 32, 116, 104, 101, 110, 32, 50, 32, 101, 108, 115, 101, 32, 51] rfl) sa_nil)))))))
    (ssst_cons (SS.t (ss_set (i := 3) cx (se_catL (se_var 3) (se_lst (sa_cons (se_str [102, 40, 101, 41, 32, 61, 32, 40, 105, 102, 32, 49, 32, 60, 32, 50, 32, 116, 104, 101, 110, 32, 50, 32, 101, 108, 115, 101, 32, 51, 41] rfl) (sa_cons (se_str [102, 40, 101, 41, 32, 61, 32, 40, 105, 102, 32, 101, 32, 60, 32, 101, 32, 116, 104, 101, 110, 32, 50, 32, 101, 108, 115, 101, 32, 51, 41] rfl) (sa_cons (se_str [102, 40, 101, 41, 32, 61, 32, 40, 105, 102, 32, 101, 32, 60, 32, 49, 48, 48, 49, 32, 116, 104, 101, 110, 32, 50, 32, 101, 108, 115, 101, 32, 51, 41] rfl) sa_nil)))))))
    (ssst_cons (SS.t (ss_set (i := 3) cx (se_catL (se_var 3) (se_lst (sa_cons (se_str [102, 40, 101, 41, 32, 61, 32, 40, 105, 102, 32, 101, 32, 109, 111, 100, 32, 49, 32, 61, 32, 48, 32, 116, 104, 101, 110, 32, 50, 32, 101, 108, 115, 101, 32, 51, 41] rfl) (sa_cons (se_str [102, 40, 101, 41, 32, 61, 32, 40, 105, 102, 32, 101, 32, 109, 111, 100, 32, 55, 32, 61, 32, 48, 32, 116, 104, 101, 110, 32, 50, 32, 101, 108, 115, 101, 32, 51, 41] rfl) sa_nil))))))
    (ssst_cons (SS.t (ss_set (i := 3) cx (se_catL (se_var 3) (se_lst (sa_cons (se_str [102, 40, 101, 41, 32, 61, 32, 40, 105, 102, 32, 101, 32, 109, 111, 100, 32, 51, 32, 61, 32, 51, 32, 116, 104, 101, 110, 32, 50, 32, 101, 108, 115, 101, 32, 51, 41] rfl) sa_nil)))))
    (ssst_cons (SS.t (ss_set (i := 3) cx (se_catL (se_var 3) (se_lst (sa_cons (se_str [102, 40, 101, 41, 32, 61, 32, 103, 40, 101, 41] rfl) (sa_cons (se_str [102, 40, 101, 41, 32, 61, 32, 102, 40, 41] rfl) (sa_cons (se_str [102, 40, 101, 41, 32, 61, 32, 102, 40, 49, 48, 48, 49, 41] rfl) (sa_cons (se_str [102, 40, 101, 41, 32, 61, 32, 102, 40, 101, 32, 43, 32, 54, 41] rfl) (sa_cons (se_str [102, 40, 101, 41, 32, 61, 32, 102, 40, 101, 32, 43, 32, 48, 41] rfl) (sa_cons (se_str [102, 40, 101, 41, 32, 61, 32, 102, 40, 101, 32, 124, 41] rfl) sa_nil))))))))))
    (ssst_cons (SS.t (ss_set (i := 3) cx (se_catL (se_var 3) (se_lst (sa_cons (se_str [102, 40, 101, 41, 32, 61, 32, 102, 40, 101, 32, 124, 32, 49, 41] rfl) (sa_cons (se_str [102, 40, 101, 32, 124, 32, 97, 41, 32, 61, 32, 102, 40, 101, 41] rfl) (sa_cons (se_str [102, 40, 101, 32, 124, 32, 97, 41, 32, 61, 32, 102, 40, 101, 32, 124, 32, 97, 44, 32, 97, 41] rfl) (sa_cons (se_str [102, 40, 101, 32, 124, 32, 97, 41, 32, 61, 32, 102, 40, 97, 32, 124, 32, 97, 41] rfl) (sa_cons (se_str [102, 40, 101, 41, 32, 61, 32, 48, 49] rfl) sa_nil)))))))))
    (ssst_cons (SS.t (ss_set (i := 3) cx (se_catL (se_var 3) (se_lst (sa_cons (se_str [102, 40, 101, 41, 32, 61, 32, 49, 48, 48, 48, 48, 48, 49] rfl) (sa_cons (se_str [102, 40, 101, 41, 32, 61, 32, 49, 120] rfl) (sa_cons (se_str [102, 40, 101, 41, 32, 61, 32, 120, 49] rfl) sa_nil)))))))
    (ssst_cons (SS.t (ss_set (i := 3) cx (se_catL (se_var 3) (se_lst (sa_cons (se_str [105, 102, 40, 101, 41, 32, 61, 32, 49] rfl) (sa_cons (se_str [109, 111, 100, 40, 101, 41, 32, 61, 32, 49] rfl) (sa_cons (se_str [97, 40, 101, 41, 32, 61, 32, 49] rfl) (sa_cons (se_str [101, 40, 101, 41, 32, 61, 32, 49] rfl) (sa_cons (se_str [116, 111, 111, 108, 111, 110, 103, 110, 97, 109, 101, 40, 101, 41, 32, 61, 32, 49] rfl) (sa_cons (se_str [70, 40, 101, 41, 32, 61, 32, 49] rfl) (sa_cons (se_str [102, 95, 49, 40, 101, 41, 32, 61, 32, 49] rfl) sa_nil)))))))))))
    (ssst_cons (SS.t (ss_set (i := 3) cx (se_catL (se_var 3) (se_lst (sa_cons (se_str [102, 40, 101, 41, 32, 61, 32, 40, 97, 32, 43, 32, 49, 41] rfl) (sa_cons (se_str [102, 40, 101, 41, 32, 61, 61, 32, 49] rfl) (sa_cons (se_str [102, 40, 101, 41, 32, 61, 32, 49, 32, 102] rfl) (sa_cons (se_str [102, 40, 101, 32, 124, 32, 97, 44, 32, 98, 44, 32, 99, 44, 32, 100, 44, 32, 101, 41, 32, 61, 32, 49] rfl) (sa_cons (se_str [102, 40, 101, 32, 124, 32, 97, 44, 32, 98, 44, 32, 99, 44, 32, 100, 44, 32, 97, 41, 32, 61, 32, 49] rfl) (sa_cons (se_str [102, 40, 101, 41, 32, 61, 32, 45, 49] rfl) sa_nil))))))))))
    (ssst_cons (SS.t (ss_set (i := 3) cx (se_catL (se_var 3) (se_lst (sa_cons (se_str [102, 40, 101, 41, 32, 61, 32, 40, 105, 102, 97, 32, 60, 32, 49, 32, 116, 104, 101, 110, 32, 49, 32, 101, 108, 115, 101, 32, 50, 41] rfl) sa_nil)))))
    (ssst_cons (SS.t (ss_for (vs := [4]) 10000 cx (si_lst (se_var 3)) (sg_name 4 ce.nd) (sss_one (ss_if (st_ne  (se_told c.told rfl TB.tl rfl rfl c.nl rfl rfl hrT (LamX.lamS_by (sc := defScope (top 66)) (by decide +kernel)) rfl (fun _ _ _ _ _ => rfl) (fun _ _ _ _ _ _ _ hr1 => (se_call (CtxE.lamc ce.nd hr1) hr1 G.G_read_program rfl c.g_read_program (sa_cons (se_catS (se_var 2) (se_var 4)) sa_nil)))) (se_str [105, 110, 118, 97, 108, 105, 100] rfl)) (sss_one (ss_ret se_bl)) sss_nil))))
    (ssst_cons (SS.t (ss_set (i := 5) cx (se_lst (sa_cons (se_str [102, 40, 101, 41, 61, 49] rfl) (sa_cons (se_str [102, 40, 101, 124, 97, 41, 61, 97] rfl) (sa_cons (se_str [102, 40, 101, 32, 124, 32, 97, 44, 32, 98, 44, 32, 99, 44, 32, 100, 41, 32, 61, 32, 100] rfl) (sa_cons (se_str [102, 40, 101, 41, 32, 61, 32, 40, 49, 32, 43, 32, 50, 41] rfl) (sa_cons (se_str [102, 40, 101, 41, 32, 61, 32, 40, 105, 102, 32, 101, 32, 60, 32, 49, 48, 48, 48, 32, 116, 104, 101, 110, 32, 50, 32, 101, 108, 115, 101, 32, 51, 41] rfl) sa_nil))))))))
    (ssst_cons (SS.t (ss_set (i := 5) cx (se_catL (se_var 5) (se_lst (sa_cons (se_str [102, 40, 101, 41, 32, 61, 32, 40, 105, 102, 32, 101, 32, 109, 111, 100, 32, 54, 32, 61, 32, 53, 32, 116, 104, 101, 110, 32, 50, 32, 101, 108, 115, 101, 32, 51, 41] rfl) (sa_cons (se_str [102, 40, 101, 32, 124, 32, 97, 41, 32, 61, 32, 40, 105, 102, 32, 101, 32, 60, 32, 97, 32, 116, 104, 101, 110, 32, 50, 32, 101, 108, 115, 101, 32, 51, 41] rfl) sa_nil))))))
    (ssst_cons (SS.t (ss_set (i := 5) cx (se_catL (se_var 5) (se_lst (sa_cons (se_str [102, 40, 101, 32, 124, 32, 97, 41, 32, 61, 32, 40, 105, 102, 32, 97, 32, 60, 32, 101, 32, 116, 104, 101, 110, 32, 50, 32, 101, 108, 115, 101, 32, 51, 41] rfl) (sa_cons (se_str [102, 40, 101, 41, 32, 61, 32, 102, 40, 101, 41] rfl) (sa_cons (se_str [102, 40, 101, 41, 32, 61, 32, 102, 40, 48, 41] rfl) (sa_cons (se_str [102, 40, 101, 41, 32, 61, 32, 102, 40, 101, 32, 43, 32, 53, 41] rfl) (sa_cons (se_str [102, 40, 101, 41, 32, 61, 32, 102, 40, 101, 32, 45, 32, 53, 41] rfl) sa_nil)))))))))
    (ssst_cons (SS.t (ss_set (i := 5) cx (se_catL (se_var 5) (se_lst (sa_cons (se_str [120, 40, 101, 41, 32, 61, 32, 49, 48, 48, 48, 48, 48, 48, 59, 32, 121, 40, 101, 41, 32, 61, 32, 120, 40, 49, 48, 48, 48, 41] rfl) sa_nil)))))
    (ssst_cons (sst_for (vs := [4]) 10000 cx (si_lst (se_var 5)) (sg_name 4 ce.nd) (ssst_cons (sst_set (i := 7) cx (set_rep [32] [] (se_var 4)))
    (ssst_cons (sst_if (stt_ne (set_rep [32] [] (se_call ce hr0 G.G_write_program rfl c.g_write_program (sa_cons (se_call ce hr0 G.G_read_program rfl c.g_read_program (sa_cons (se_catS (se_catS (se_var 2) (se_var 4)) (se_var 2)) sa_nil)) sa_nil))) (SE.t (se_var 7))) (ssst_cons (SS.t (ss_ret se_bl))
    ssst_nil) ssst_nil)
    ssst_nil)))
    (ssst_cons (SS.t (ss_set (i := 3) cx (se_lst (sa_cons (se_str [102, 95, 49, 40, 41, 32, 61, 32, 97] rfl) (sa_cons (se_str [102, 95, 49, 40, 101, 41, 32, 61, 32, 49] rfl) (sa_cons (se_str [102, 40, 97, 41, 32, 61, 32, 97] rfl) (sa_cons (se_str [102, 95, 48, 49, 40, 41, 32, 61, 32, 49] rfl) (sa_cons (se_str [102, 95, 40, 41, 32, 61, 32, 49] rfl) (sa_cons (se_str [95, 49, 40, 41, 32, 61, 32, 49] rfl) (sa_cons (se_str [102, 95, 49, 40, 41, 32, 61, 32, 101] rfl) sa_nil))))))))))
    (ssst_cons (SS.t (ss_set (i := 3) cx (se_catL (se_var 3) (se_lst (sa_cons (se_str [102, 95, 49, 40, 41, 32, 61, 32, 40, 105, 102, 32, 101, 32, 60, 32, 49, 32, 116, 104, 101, 110, 32, 50, 32, 101, 108, 115, 101, 32, 51, 41] rfl) (sa_cons (se_str [102, 95, 49, 40, 41, 32, 61, 32, 102, 95, 50, 40, 41] rfl) (sa_cons (se_str [102, 95, 49, 40, 41, 32, 61, 32, 102, 95, 49, 40, 49, 41] rfl) (sa_cons (se_str [102, 95, 49, 40, 97, 41, 32, 61, 32, 102, 95, 49, 40, 41] rfl) (sa_cons (se_str [102, 95, 49, 40, 41, 32, 61, 32, 49, 59, 32, 102, 95, 49, 40, 41, 32, 61, 32, 50] rfl) sa_nil)))))))))
    (ssst_cons (SS.t (ss_set (i := 3) cx (se_catL (se_var 3) (se_lst (sa_cons (se_str [102, 95, 49, 32, 40, 41, 32, 61, 32] rfl) (sa_cons (se_str [102, 95, 49, 48, 48, 48, 48, 48, 48, 49, 40, 41, 32, 61, 32, 49] rfl) (sa_cons (se_str [102, 95, 49, 40, 41, 32, 61, 32, 40, 105, 102, 32, 49, 32, 109, 111, 100, 32, 50, 32, 61, 32, 49, 32, 116, 104, 101, 110, 32, 49, 32, 101, 108, 115, 101, 32, 50, 41] rfl) (sa_cons (se_str [102, 95, 49, 120, 40, 41, 32, 61, 32, 49] rfl) (sa_cons (se_str [102, 95, 49, 40, 98, 41, 32, 61, 32, 98] rfl) sa_nil)))))))))
    (ssst_cons (SS.t (ss_set (i := 3) cx (se_catL (se_var 3) (se_lst (sa_cons (se_str [97, 95, 49, 40, 41, 32, 61, 32, 49] rfl) sa_nil)))))
    (ssst_cons (SS.t (ss_for (vs := [4]) 10000 cx (si_lst (se_var 3)) (sg_name 4 ce.nd) (sss_one (ss_if (st_ne  (se_told c.told rfl TB.tl rfl rfl c.nl rfl rfl hrT (LamX.lamS_by (sc := defScope (top 66)) (by decide +kernel)) rfl (fun _ _ _ _ _ => rfl) (fun _ _ _ _ _ _ _ hr1 => (se_call (CtxE.lamc ce.nd hr1) hr1 G.G_read_plain rfl c.g_read_plain (sa_cons (se_catS (se_var 4) (se_var 2)) sa_nil)))) (se_str [105, 110, 118, 97, 108, 105, 100] rfl)) (sss_one (ss_ret se_bl)) sss_nil))))
    (ssst_cons (SS.t (ss_set (i := 5) cx (se_lst (sa_cons (se_str [102, 95, 48, 40, 41, 61, 49] rfl) (sa_cons (se_str [102, 95, 49, 48, 48, 48, 48, 48, 48, 48, 40, 97, 44, 98, 41, 61, 40, 97, 45, 98, 41] rfl) (sa_cons (se_str [102, 95, 49, 40, 41, 61, 40, 105, 102, 32, 49, 60, 50, 32, 116, 104, 101, 110, 32, 51, 32, 101, 108, 115, 101, 32, 102, 95, 49, 40, 41, 41] rfl) (sa_cons (se_str [102, 95, 49, 40, 41, 61, 49, 48, 48, 48, 48, 48, 48, 48, 48, 48, 48, 48, 48, 48, 48, 48, 48, 48, 48, 48, 48, 48, 48, 48, 48, 48, 48, 48, 48, 48, 48] rfl) (sa_cons (se_str [103, 95, 50, 40, 97, 41, 61, 103, 95, 50, 40, 40, 97, 42, 103, 95, 50, 40, 97, 41, 41, 41] rfl) sa_nil))))))))
    (ssst_cons (sst_for (vs := [4]) 10000 cx (si_lst (se_var 5)) (sg_name 4 ce.nd) (ssst_cons (sst_if (stt_ne (set_rep [32] [] (se_call ce hr0 G.G_write_plain rfl c.g_write_plain (sa_cons (se_call ce hr0 G.G_read_plain rfl c.g_read_plain (sa_cons (se_catS (se_var 2) (se_var 4)) sa_nil)) sa_nil))) (set_rep [32] [] (se_var 4))) (ssst_cons (SS.t (ss_ret se_bl))
    ssst_nil) ssst_nil)
    ssst_nil))
    (ssst_cons (SS.t (ss_for (vs := [6]) 10000 cx (si_lst (se_lst (sa_cons se_non (sa_cons se_int (sa_cons (se_tup (sa_cons (se_str [102, 40, 101, 41, 32, 61, 32, 49] rfl) sa_nil)) (sa_cons (se_lst (sa_cons (se_str [102] rfl) sa_nil)) sa_nil)))))) (sg_name 6 ce.nd) (sss_cons (ss_set (i := 8) cx (se_lst (sa_cons (se_told c.told rfl TB.tl rfl rfl c.nl rfl rfl hrT (LamX.lamS_by (sc := defScope (top 66)) (by decide +kernel)) rfl (fun _ _ _ _ _ => rfl) (fun _ _ _ _ _ _ _ hr1 => (se_call (CtxE.lamc ce.nd hr1) hr1 G.G_read_program rfl c.g_read_program (sa_cons (se_var 6) sa_nil)))) sa_nil)))
    (sss_cons (ss_expr (se_app (se_var 8) (sa_cons (se_told c.told rfl TB.tl rfl rfl c.nl rfl rfl hrT (LamX.lamS_by (sc := defScope (top 66)) (by decide +kernel)) rfl (fun _ _ _ _ _ => rfl) (fun _ _ _ _ _ _ _ hr1 => (se_call (CtxE.lamc ce.nd hr1) hr1 G.G_read_plain rfl c.g_read_plain (sa_cons (se_var 6) sa_nil)))) sa_nil)))
    (sss_one (ss_if (st_neD ce (se_var 8) (se_rep (se_lst (sa_cons (se_str [111, 116, 104, 101, 114] rfl) sa_nil)) se_int)) (sss_one (ss_ret se_bl)) sss_nil))))))
    (ssst_cons (SS.t (ss_ret se_bl))
    ssst_nil))))))))))))))))))))))))))))
end
end Kv

/-! The pick by the first cell. -/
namespace Kv
open PySem PySem.Spec PyProof.Rows L2 GenW
theorem seq_nx {f g : SF} {en e1 : En} {S S1 : Sto} (h : f en S = .nx e1 S1) : sSeq f g en S = g e1 S1 := by
  unfold sSeq
  rw [h]
theorem seq_ex {f g : SF} {en e1 : En} {S S1 : Sto} {d : D} {Pz : Sto → Prop} (h : f en S = .nx e1 S1) (k : ∃ S', g e1 S1 = .rt d S' ∧ Pz S') : ∃ S', sSeq f g en S = .rt d S' ∧ Pz S' := by
  rw [seq_nx h]
  exact k
/-- the first cell decides -/
theorem takenB (F : Fs) (z : Int) (rest w : List D) : ∃ S', b__law_taken F [some (.ob 1), some (.int 3), none, none] [.lst (.int z :: rest), .lst [.ob 0, .int 0, .int 14014, .int 0], .lst w] = .rt (.int (z % 3)) S' ∧ nth S' 2 = some (.lst w) := by
  unfold b__law_taken
  refine seq_ex (e1 := [some (.ob 1), some (.int 3), none, none]) (S1 := [.lst (.int z :: rest), .lst [.ob 0, .int 0, .int 14014, .int 0], .lst w]) ?_ ?_
  · rfl
  refine seq_ex (e1 := [some (.ob 1), some (.int 3), none, none]) (S1 := [.lst (.int z :: rest), .lst [.ob 0, .int 1, .int 14014, .int 0], .lst w]) ?_ ?_
  · rfl
  refine seq_ex (e1 := [some (.ob 1), some (.int 3), none, none]) (S1 := [.lst (.int z :: rest), .lst [.ob 0, .int 1, .int 14014, .int 0], .lst w]) ?_ ?_
  · rfl
  refine seq_ex (e1 := [some (.ob 1), some (.int 3), some (.int z), none]) (S1 := [.lst (.int z :: rest), .lst [.ob 0, .int 1, .int 14014, .int 0], .lst w]) ?_ ?_
  · rfl
  refine seq_ex (e1 := [some (.ob 1), some (.int 3), some (.int z), none]) (S1 := [.lst (.int z :: rest), .lst [.ob 0, .int 1, .int ((14014 * 48271 + z + 11) % 2147483647), .int 0], .lst w]) ?_ ?_
  · rfl
  have ht : (bT (eOp (oI fun i j => leI j i) (eVar 2) (eOp oPow (eC (.int 10)) (eC (.int 18))))) [some (.ob 1), some (.int 3), some (.int z), none] [.lst (.int z :: rest), .lst [.ob 0, .int 1, .int ((14014 * 48271 + z + 11) % 2147483647), .int 0], .lst w] = .ok (leI 1000000000000000000 z) [.lst (.int z :: rest), .lst [.ob 0, .int 1, .int ((14014 * 48271 + z + 11) % 2147483647), .int 0], .lst w] := rfl
  cases hb : leI 1000000000000000000 z with
  | true =>
    rw [hb] at ht
    refine seq_ex (e1 := [some (.ob 1), some (.int 3), some (.int z), none]) (S1 := [.lst (.int z :: rest), .lst [.ob 0, .int 1, .int ((14014 * 48271 + z + 11) % 2147483647), .int (z / 3)], .lst w]) ?_ ⟨_, rfl, rfl⟩
    unfold sIf
    rw [ht]
    rfl
  | false =>
    rw [hb] at ht
    refine seq_ex (e1 := [some (.ob 1), some (.int 3), some (.int z), none]) (S1 := [.lst (.int z :: rest), .lst [.ob 0, .int 1, .int ((14014 * 48271 + z + 11) % 2147483647), .int 0], .lst w]) ?_ ⟨_, rfl, rfl⟩
    unfold sIf
    rw [ht]
    rfl
theorem takenA (F : Fs) (z : Int) (rest w : List D) : ∃ S', b__law_taken F [some (.ob 0), some (.int 3), none, none] [.lst [.kl (.int z :: rest), .int 0, .int 14014, .int 0], .lst w] = .rt (.int (z % 3)) S' ∧ nth S' 1 = some (.lst w) := by
  unfold b__law_taken
  refine seq_ex (e1 := [some (.ob 0), some (.int 3), none, none]) (S1 := [.lst [.kl (.int z :: rest), .int 0, .int 14014, .int 0], .lst w]) ?_ ?_
  · rfl
  refine seq_ex (e1 := [some (.ob 0), some (.int 3), none, none]) (S1 := [.lst [.kl (.int z :: rest), .int 1, .int 14014, .int 0], .lst w]) ?_ ?_
  · rfl
  refine seq_ex (e1 := [some (.ob 0), some (.int 3), none, none]) (S1 := [.lst [.kl (.int z :: rest), .int 1, .int 14014, .int 0], .lst w]) ?_ ?_
  · rfl
  refine seq_ex (e1 := [some (.ob 0), some (.int 3), some (.int z), none]) (S1 := [.lst [.kl (.int z :: rest), .int 1, .int 14014, .int 0], .lst w]) ?_ ?_
  · rfl
  refine seq_ex (e1 := [some (.ob 0), some (.int 3), some (.int z), none]) (S1 := [.lst [.kl (.int z :: rest), .int 1, .int ((14014 * 48271 + z + 11) % 2147483647), .int 0], .lst w]) ?_ ?_
  · rfl
  have ht : (bT (eOp (oI fun i j => leI j i) (eVar 2) (eOp oPow (eC (.int 10)) (eC (.int 18))))) [some (.ob 0), some (.int 3), some (.int z), none] [.lst [.kl (.int z :: rest), .int 1, .int ((14014 * 48271 + z + 11) % 2147483647), .int 0], .lst w] = .ok (leI 1000000000000000000 z) [.lst [.kl (.int z :: rest), .int 1, .int ((14014 * 48271 + z + 11) % 2147483647), .int 0], .lst w] := rfl
  cases hb : leI 1000000000000000000 z with
  | true =>
    rw [hb] at ht
    refine seq_ex (e1 := [some (.ob 0), some (.int 3), some (.int z), none]) (S1 := [.lst [.kl (.int z :: rest), .int 1, .int ((14014 * 48271 + z + 11) % 2147483647), .int (z / 3)], .lst w]) ?_ ⟨_, rfl, rfl⟩
    unfold sIf
    rw [ht]
    rfl
  | false =>
    rw [hb] at ht
    refine seq_ex (e1 := [some (.ob 0), some (.int 3), some (.int z), none]) (S1 := [.lst [.kl (.int z :: rest), .int 1, .int ((14014 * 48271 + z + 11) % 2147483647), .int 0], .lst w]) ?_ ⟨_, rfl, rfl⟩
    unfold sIf
    rw [ht]
    rfl
def isSpace (s : List Nat) : Prop := s = [] ∨ s = [32] ∨ s = [32, 32, 32]
abbrev en0 (x : D) : En := [some x, none, none, none, none, none, none, none, none]
abbrev spaces : List D := [.str [], .str [32], .str [32, 32, 32]]
theorem mod3 (z : Int) : z % 3 = 0 ∨ z % 3 = 1 ∨ z % 3 = 2 := by omega
theorem pickB (ns : List Int) : ∃ e S1 s S2, b_law1 (fsN 60) (en0 (.ob 0)) [.lst (ns.map D.int)] = .nx e S1 ∧ b_law2 (fsN 60) e S1 = .nx [some (.ob 0), some (.ob 1), some (.str s), none, none, none, none, none, none] S2 ∧ isSpace s := by
  refine ⟨[some (.ob 0), some (.ob 1), none, none, none, none, none, none, none], [.lst (ns.map D.int), .lst [.ob 0, .int 0, .int 14014, .int 0]], ?_⟩
  cases ns with
  | nil => exact ⟨[32, 32, 32], _, rfl, rfl, .inr (.inr rfl)⟩
  | cons z rest =>
    obtain ⟨S', h, hw⟩ := takenB (fsN 58) z (rest.map D.int) spaces
    have h2 : (fsN 59)._law_taken [.ob 1, .int 3] [.lst (.int z :: rest.map D.int), .lst [.ob 0, .int 0, .int 14014, .int 0], .lst spaces] = .ok (.int (z % 3)) S' := by
      show runF 2 (b__law_taken (fsN 58)) _ _ = _
      unfold runF
      rw [show (List.map some [D.ob 1, D.int 3] ++ List.replicate 2 none) = [some (D.ob 1), some (D.int 3), none, none] from rfl, h]
    have hs : ∃ s, isSpace s ∧ oIxL (.ob 2) (.int (z % 3)) S' = .ok (.str s) S' := by
      unfold oIxL listOf
      simp only [hw]
      rcases mod3 z with e | e | e
      · rw [e]; exact ⟨[], .inl rfl, rfl⟩
      · rw [e]; exact ⟨[32], .inr (.inl rfl), rfl⟩
      · rw [e]; exact ⟨[32, 32, 32], .inr (.inr rfl), rfl⟩
    obtain ⟨s, hsp, hs⟩ := hs
    have h3 : b__law_pick (fsN 59) [some (.ob 1), some (.ob 2)] [.lst (.int z :: rest.map D.int), .lst [.ob 0, .int 0, .int 14014, .int 0], .lst spaces] = .rt (.str s) S' := by
      show (((fsN 59)._law_taken [.ob 1, .int 3] [.lst (.int z :: rest.map D.int), .lst [.ob 0, .int 0, .int 14014, .int 0], .lst spaces]).bind fun y S2 => oIxL (.ob 2) y S2).out (fun d S1 => .rt d S1) = _
      rw [h2]
      show (oIxL (.ob 2) (.int (z % 3)) S').out (fun d S1 => .rt d S1) = _
      rw [hs]
      rfl
    have h4 : (fsN 60)._law_pick [.ob 1, .ob 2] [.lst (.int z :: rest.map D.int), .lst [.ob 0, .int 0, .int 14014, .int 0], .lst spaces] = .ok (.str s) S' := by
      show runF 0 (b__law_pick (fsN 59)) _ _ = _
      unfold runF
      rw [show (List.map some [D.ob 1, D.ob 2] ++ List.replicate 0 none) = [some (D.ob 1), some (D.ob 2)] from rfl, h3]
    refine ⟨s, S', rfl, ?_, hsp⟩
    show ((fsN 60)._law_pick [.ob 1, .ob 2] [.lst (.int z :: rest.map D.int), .lst [.ob 0, .int 0, .int 14014, .int 0], .lst spaces]).out (fun d S1 => .nx (setN _ 2 (some d)) S1) = _
    rw [h4]
    rfl
theorem pickA (ns : List Int) : ∃ e S1 s S2, b_law1 (fsN 60) (en0 (.kl (ns.map D.int))) [] = .nx e S1 ∧ b_law2 (fsN 60) e S1 = .nx [some (.kl (ns.map D.int)), some (.ob 0), some (.str s), none, none, none, none, none, none] S2 ∧ isSpace s := by
  refine ⟨[some (.kl (ns.map D.int)), some (.ob 0), none, none, none, none, none, none, none], [.lst [.kl (ns.map D.int), .int 0, .int 14014, .int 0]], ?_⟩
  cases ns with
  | nil => exact ⟨[32, 32, 32], _, rfl, rfl, .inr (.inr rfl)⟩
  | cons z rest =>
    obtain ⟨S', h, hw⟩ := takenA (fsN 58) z (rest.map D.int) spaces
    have h2 : (fsN 59)._law_taken [.ob 0, .int 3] [.lst [.kl (.int z :: rest.map D.int), .int 0, .int 14014, .int 0], .lst spaces] = .ok (.int (z % 3)) S' := by
      show runF 2 (b__law_taken (fsN 58)) _ _ = _
      unfold runF
      rw [show (List.map some [D.ob 0, D.int 3] ++ List.replicate 2 none) = [some (D.ob 0), some (D.int 3), none, none] from rfl, h]
    have hs : ∃ s, isSpace s ∧ oIxL (.ob 1) (.int (z % 3)) S' = .ok (.str s) S' := by
      unfold oIxL listOf
      simp only [hw]
      rcases mod3 z with e | e | e
      · rw [e]; exact ⟨[], .inl rfl, rfl⟩
      · rw [e]; exact ⟨[32], .inr (.inl rfl), rfl⟩
      · rw [e]; exact ⟨[32, 32, 32], .inr (.inr rfl), rfl⟩
    obtain ⟨s, hsp, hs⟩ := hs
    have h3 : b__law_pick (fsN 59) [some (.ob 0), some (.ob 1)] [.lst [.kl (.int z :: rest.map D.int), .int 0, .int 14014, .int 0], .lst spaces] = .rt (.str s) S' := by
      show (((fsN 59)._law_taken [.ob 0, .int 3] [.lst [.kl (.int z :: rest.map D.int), .int 0, .int 14014, .int 0], .lst spaces]).bind fun y S2 => oIxL (.ob 1) y S2).out (fun d S1 => .rt d S1) = _
      rw [h2]
      show (oIxL (.ob 1) (.int (z % 3)) S').out (fun d S1 => .rt d S1) = _
      rw [hs]
      rfl
    have h4 : (fsN 60)._law_pick [.ob 0, .ob 1] [.lst [.kl (.int z :: rest.map D.int), .int 0, .int 14014, .int 0], .lst spaces] = .ok (.str s) S' := by
      show runF 0 (b__law_pick (fsN 59)) _ _ = _
      unfold runF
      rw [show (List.map some [D.ob 0, D.ob 1] ++ List.replicate 0 none) = [some (D.ob 0), some (D.ob 1)] from rfl, h3]
    refine ⟨s, S', rfl, ?_, hsp⟩
    show ((fsN 60)._law_pick [.ob 0, .ob 1] [.lst [.kl (.int z :: rest.map D.int), .int 0, .int 14014, .int 0], .lst spaces]).out (fun d S1 => .nx (setN _ 2 (some d)) S1) = _
    rw [h4]
    rfl
end Kv

/-! Printed by pr2.py: the run of the law by statements. -/
namespace Kv
open PySem PySem.Spec PyProof.Rows L2 GenW
mutual
def eqDD : D → D → Bool
  | .non, .non => true
  | .bl a, .bl b => match a, b with
    | true, true => true
    | false, false => true
    | _, _ => false
  | .int a, .int b => eqI a b
  | .str a, .str b => beqN a b
  | .tup a, .tup b => eqDDs a b
  | .ob a, .ob b => Nat.beq a b
  | .kl a, .kl b => eqDDs a b
  | _, _ => false
def eqDDs : List D → List D → Bool
  | [], [] => true
  | a :: r, b :: q => match eqDD a b with
    | true => eqDDs r q
    | false => false
  | _, _ => false
end
mutual
theorem eqDD_ok : ∀ (a b : D), eqDD a b = true → a = b
  | .non, b, h => by cases b <;> simp [eqDD] at h <;> rfl
  | .bl a, b, h => by
    cases b <;> simp only [eqDD] at h <;> try cases h
    rename_i c
    cases a <;> cases c <;> first | rfl | cases h
  | .int a, b, h => by
    cases b <;> simp only [eqDD] at h <;> try cases h
    rw [eqI_iff.mp h]
  | .str a, b, h => by
    cases b <;> simp only [eqDD] at h <;> try cases h
    rw [beqN_iff.mp h]
  | .tup a, b, h => by
    cases b <;> simp only [eqDD] at h <;> try cases h
    rw [eqDDs_ok a _ h]
  | .ob a, b, h => by
    cases b <;> simp only [eqDD] at h <;> try cases h
    rw [Nat.eq_of_beq_eq_true h]
  | .kl a, b, h => by
    cases b <;> simp only [eqDD] at h <;> try cases h
    rw [eqDDs_ok a _ h]
theorem eqDDs_ok : ∀ (a b : List D), eqDDs a b = true → a = b
  | [], [], _ => rfl
  | [], _ :: _, h => by simp [eqDDs] at h
  | _ :: _, [], h => by simp [eqDDs] at h
  | a :: r, b :: q, h => by
    unfold eqDDs at h
    cases e : eqDD a b with
    | false => rw [e] at h; cases h
    | true =>
      rw [e] at h
      rw [eqDD_ok a b e, eqDDs_ok r q h]
end
def eqEn : En → En → Bool
  | [], [] => true
  | none :: r, none :: q => eqEn r q
  | some a :: r, some b :: q => match eqDD a b with
    | true => eqEn r q
    | false => false
  | _, _ => false
theorem eqEn_ok : ∀ (a b : En), eqEn a b = true → a = b
  | [], [], _ => rfl
  | [], _ :: _, h => by simp [eqEn] at h
  | none :: _, [], h => by simp [eqEn] at h
  | some _ :: _, [], h => by simp [eqEn] at h
  | none :: r, none :: q, h => by
    unfold eqEn at h
    rw [eqEn_ok r q h]
  | none :: r, some b :: q, h => by simp [eqEn] at h
  | some a :: r, none :: q, h => by simp [eqEn] at h
  | some a :: r, some b :: q, h => by
    unfold eqEn at h
    cases e : eqDD a b with
    | false => rw [e] at h; cases h
    | true =>
      rw [e] at h
      rw [eqDD_ok a b e, eqEn_ok r q h]
/-- stores that hold lists alone -/
def eqSto : Sto → Sto → Bool
  | [], [] => true
  | .lst a :: r, .lst b :: q => match eqDDs a b with
    | true => eqSto r q
    | false => false
  | _, _ => false
theorem eqSto_ok : ∀ (a b : Sto), eqSto a b = true → a = b
  | [], [], _ => rfl
  | [], _ :: _, h => by simp [eqSto] at h
  | .lst _ :: _, [], h => by simp [eqSto] at h
  | .ins _ :: _, _, h => by simp [eqSto] at h
  | .dk _ :: _, _, h => by simp [eqSto] at h
  | .lst a :: r, .ins _ :: q, h => by simp [eqSto] at h
  | .lst a :: r, .dk _ :: q, h => by simp [eqSto] at h
  | .lst a :: r, .lst b :: q, h => by
    unfold eqSto at h
    cases e : eqDDs a b with
    | false => rw [e] at h; cases h
    | true =>
      rw [e] at h
      rw [eqDDs_ok a b e, eqSto_ok r q h]
def sameB (x : Out) (e : En) (S : Sto) : Bool := match x with
  | .nx e1 S1 => match eqEn e1 e with
    | true => eqSto S1 S
    | false => false
  | _ => false
theorem sameB_ok {x : Out} {e : En} {S : Sto} (h : sameB x e S = true) : x = .nx e S := by
  unfold sameB at h
  cases x with
  | nx e1 S1 =>
    simp only at h
    cases e2 : eqEn e1 e with
    | false => rw [e2] at h; cases h
    | true =>
      rw [e2] at h
      rw [eqEn_ok _ _ e2, eqSto_ok _ _ h]
  | _ => cases h
def okT : Out → Bool
  | .rt (.bl true) _ => true
  | _ => false
theorem okT_ok {x : Out} (h : okT x = true) : ∃ S, x = .rt (.bl true) S := by
  unfold okT at h
  split at h
  · exact ⟨_, rfl⟩
  · cases h
def seqL : List SF → SF → SF
  | [], R => R
  | f :: fs, R => sSeq f (seqL fs R)
def runL : List SF → En → Sto → Out
  | [], en, S => .nx en S
  | f :: fs, en, S => match f en S with
    | .nx e S1 => runL fs e S1
    | o => o
theorem seqL_run : ∀ {fs : List SF} {R : SF} {en e1 : En} {S S1 : Sto}, runL fs en S = .nx e1 S1 → seqL fs R en S = R e1 S1
  | [], R, en, e1, S, S1, h => by cases h; rfl
  | f :: fs, R, en, e1, S, S1, h => by
    unfold runL at h
    cases e : f en S with
    | nx e2 S2 =>
      rw [e] at h
      show sSeq f (seqL fs R) en S = _
      rw [seq_nx e]
      exact seqL_run h
    | _ => rw [e] at h; cases h
/-- the env at the turn k -/
def envAt (nxt : En → D → En) (ts : List D) (en : En) : Nat → En
  | 0 => en
  | k + 1 => match nth ts k with
    | some t => nxt (envAt nxt ts en k) t
    | none => envAt nxt ts en k
theorem for_run {i j : Nat} {b : SF} {S : Sto} {ts : List D} {en : En} {nxt : En → D → En} (hx : nth S j = some (.lst ts)) (hall : ∀ k t, nth ts k = some t → b (setN (envAt nxt ts en k) i (some t)) S = .nx (nxt (envAt nxt ts en k) t) S) :
    ∀ (n k : Nat), k ≤ ts.length → ts.length - k < n → forF (.ob j) (gN i) b n k (envAt nxt ts en k) S = .nx (envAt nxt ts en ts.length) S := by
  intro n
  induction n with
  | zero => intro k _ h; omega
  | succ n ih =>
    intro k hk h
    have it : itAt S k (.ob j) = some (nth ts k) := by
      show (match listOf S (.ob j) with | some ds => some (nth ds k) | none => none) = _
      simp only [listOf, hx]
    unfold forF
    rw [it]
    cases e : nth ts k with
    | none =>
      rw [nth_eq, List.getElem?_eq_none_iff] at e
      have ek : k = ts.length := by omega
      rw [ek]
    | some t =>
      have hlt : k < ts.length := by
        rw [nth_eq] at e
        exact (List.getElem?_eq_some_iff.mp e).1
      have h1 := hall k t e
      have e2 : envAt nxt ts en (k + 1) = nxt (envAt nxt ts en k) t := by
        show (match nth ts k with | some t => nxt (envAt nxt ts en k) t | none => envAt nxt ts en k) = _
        rw [e]
      show (match b (setN (envAt nxt ts en k) i (some t)) S with
        | .nx e S2 => forF (.ob j) (gN i) b n (k + 1) e S2
        | .ct e S2 => forF (.ob j) (gN i) b n (k + 1) e S2
        | .bk e S2 => .nx e S2
        | .rt d S2 => .rt d S2
        | .exc x S2 => .exc x S2
        | .bad => .bad) = _
      rw [h1, ← e2]
      exact ih (k + 1) hlt (by omega)
/-- for x in name: .. -/
theorem sFor_run {i j v : Nat} {b : SF} {S : Sto} {ts : List D} {en : En} {nxt : En → D → En} (hv : nth en v = some (some (.ob j))) (hx : nth S j = some (.lst ts)) (hlen : ts.length < 10000) (hall : ∀ k t, nth ts k = some t → b (setN (envAt nxt ts en k) i (some t)) S = .nx (nxt (envAt nxt ts en k) t) S) :
    sFor 10000 (iL (eVar v)) (gN i) b en S = .nx (envAt nxt ts en ts.length) S := by
  unfold sFor iL eVar
  rw [hv]
  show (match listOf S (.ob j) with | some _ => Ans.ok (D.ob j) S | none => .bad).out _ = _
  simp only [listOf, hx]
  exact for_run hx hall 10000 0 (Nat.zero_le _) (by omega)
def allB (f : Nat → Bool) : Nat → Prop
  | 0 => True
  | n + 1 => f n = true ∧ allB f n
theorem allB_at {f : Nat → Bool} : ∀ {n k : Nat}, allB f n → k < n → f k = true
  | 0, k, _, h => by omega
  | n + 1, k, ⟨h1, h2⟩, h => by
    by_cases e : k = n
    · rw [e]; exact h1
    · exact allB_at h2 (by omega)
def nx4 : En → D → En := fun e t => setN e 4 (some t)
def repDD : D → D
  | .str s => .str (Txt.replace ⟨s.toArray⟩ ⟨[32].toArray⟩ ⟨[].toArray⟩).cps.toList
  | d => d
def nx46 : En → D → En := fun e t => setN (setN e 4 (some t)) 7 (some (repDD t))
/-- one turn's test -/
def turnB (b : SF) (nxt : En → D → En) (ts : List D) (en : En) (S : Sto) (k : Nat) : Bool := match nth ts k with
  | some t => sameB (b (setN (envAt nxt ts en k) 4 (some t)) S) (nxt (envAt nxt ts en k) t) S
  | none => true
theorem turnB_all {b : SF} {nxt : En → D → En} {ts : List D} {en : En} {S : Sto} (h : allB (turnB b nxt ts en S) ts.length) : ∀ k t, nth ts k = some t → b (setN (envAt nxt ts en k) 4 (some t)) S = .nx (nxt (envAt nxt ts en k) t) S := fun k t e => by
  have hlt : k < ts.length := by
    rw [nth_eq] at e
    exact (List.getElem?_eq_some_iff.mp e).1
  have z := allB_at h hlt
  unfold turnB at z
  rw [e] at z
  exact sameB_ok z

def S_0 : Sto := [.lst [.str [], .str [32], .str [102], .str [102, 40, 101, 41], .str [102, 40, 101, 41, 32, 61], .str [102, 40, 101, 41, 32, 61, 32, 49, 59], .str [102, 40, 101, 41, 32, 61, 32, 49, 59, 32, 102, 40, 101, 41, 32, 61, 32, 50], .str [102, 40, 97, 41, 32, 61, 32, 49], .str [102, 40, 101, 124, 41, 32, 61, 32, 49], .str [102, 40, 101, 32, 124, 32, 98, 41, 32, 61, 32, 98]], .lst [.str [102, 40, 101, 32, 124, 32, 97, 44, 32, 99, 41, 32, 61, 32, 97], .str [102, 40, 101, 32, 124, 32, 97, 44, 32, 97, 41, 32, 61, 32, 97]], .lst [.str [], .str [32], .str [102], .str [102, 40, 101, 41], .str [102, 40, 101, 41, 32, 61], .str [102, 40, 101, 41, 32, 61, 32, 49, 59], .str [102, 40, 101, 41, 32, 61, 32, 49, 59, 32, 102, 40, 101, 41, 32, 61, 32, 50], .str [102, 40, 97, 41, 32, 61, 32, 49], .str [102, 40, 101, 124, 41, 32, 61, 32, 49], .str [102, 40, 101, 32, 124, 32, 98, 41, 32, 61, 32, 98], .str [102, 40, 101, 32, 124, 32, 97, 44, 32, 99, 41, 32, 61, 32, 97], .str [102, 40, 101, 32, 124, 32, 97, 44, 32, 97, 41, 32, 61, 32, 97]], .lst [.str [102, 40, 101, 32, 124, 32, 97, 44, 41, 32, 61, 32, 97], .str [102, 40, 101, 41, 32, 61, 32, 97], .str [102, 40, 101, 41, 32, 61, 32, 40, 49, 32, 43, 32, 50], .str [102, 40, 101, 41, 32, 61, 32, 49, 32, 43, 32, 50], .str [102, 40, 101, 41, 32, 61, 32, 40, 49, 41], .str [102, 40, 101, 41, 32, 61, 32, 40, 49, 32, 47, 32, 50, 41]], .lst [.str [], .str [32], .str [102], .str [102, 40, 101, 41], .str [102, 40, 101, 41, 32, 61], .str [102, 40, 101, 41, 32, 61, 32, 49, 59], .str [102, 40, 101, 41, 32, 61, 32, 49, 59, 32, 102, 40, 101, 41, 32, 61, 32, 50], .str [102, 40, 97, 41, 32, 61, 32, 49], .str [102, 40, 101, 124, 41, 32, 61, 32, 49], .str [102, 40, 101, 32, 124, 32, 98, 41, 32, 61, 32, 98], .str [102, 40, 101, 32, 124, 32, 97, 44, 32, 99, 41, 32, 61, 32, 97], .str [102, 40, 101, 32, 124, 32, 97, 44, 32, 97, 41, 32, 61, 32, 97], .str [102, 40, 101, 32, 124, 32, 97, 44, 41, 32, 61, 32, 97], .str [102, 40, 101, 41, 32, 61, 32, 97], .str [102, 40, 101, 41, 32, 61, 32, 40, 49, 32, 43, 32, 50], .str [102, 40, 101, 41, 32, 61, 32, 49, 32, 43, 32, 50], .str [102, 40, 101, 41, 32, 61, 32, 40, 49, 41], .str [102, 40, 101, 41, 32, 61, 32, 40, 49, 32, 47, 32, 50, 41]], .lst [.str [102, 40, 101, 41, 32, 61, 32, 40, 49, 32, 43, 32, 50, 32, 43, 32, 51, 41], .str [102, 40, 101, 41, 32, 61, 32, 40, 105, 102, 32, 101, 32, 60, 32, 49, 32, 116, 104, 101, 110, 32, 50, 41], .str [102, 40, 101, 41, 32, 61, 32, 105, 102, 32, 101, 32, 60, 32, 49, 32, 116, 104, 101, 110, 32, 50, 32, 101, 108, 115, 101, 32, 51]], .lst [.str [], .str [32], .str [102], .str [102, 40, 101, 41], .str [102, 40, 101, 41, 32, 61], .str [102, 40, 101, 41, 32, 61, 32, 49, 59], .str [102, 40, 101, 41, 32, 61, 32, 49, 59, 32, 102, 40, 101, 41, 32, 61, 32, 50], .str [102, 40, 97, 41, 32, 61, 32, 49], .str [102, 40, 101, 124, 41, 32, 61, 32, 49], .str [102, 40, 101, 32, 124, 32, 98, 41, 32, 61, 32, 98], .str [102, 40, 101, 32, 124, 32, 97, 44, 32, 99, 41, 32, 61, 32, 97], .str [102, 40, 101, 32, 124, 32, 97, 44, 32, 97, 41, 32, 61, 32, 97], .str [102, 40, 101, 32, 124, 32, 97, 44, 41, 32, 61, 32, 97], .str [102, 40, 101, 41, 32, 61, 32, 97], .str [102, 40, 101, 41, 32, 61, 32, 40, 49, 32, 43, 32, 50], .str [102, 40, 101, 41, 32, 61, 32, 49, 32, 43, 32, 50], .str [102, 40, 101, 41, 32, 61, 32, 40, 49, 41], .str [102, 40, 101, 41, 32, 61, 32, 40, 49, 32, 47, 32, 50, 41], .str [102, 40, 101, 41, 32, 61, 32, 40, 49, 32, 43, 32, 50, 32, 43, 32, 51, 41], .str [102, 40, 101, 41, 32, 61, 32, 40, 105, 102, 32, 101, 32, 60, 32, 49, 32, 116, 104, 101, 110, 32, 50, 41], .str [102, 40, 101, 41, 32, 61, 32, 105, 102, 32, 101, 32, 60, 32, 49, 32, 116, 104, 101, 110, 32, 50, 32, 101, 108, 115, 101, 32, 51]], .lst [.str [102, 40, 101, 41, 32, 61, 32, 40, 105, 102, 32, 49, 32, 60, 32, 50, 32, 116, 104, 101, 110, 32, 50, 32, 101, 108, 115, 101, 32, 51, 41], .str [102, 40, 101, 41, 32, 61, 32, 40, 105, 102, 32, 101, 32, 60, 32, 101, 32, 116, 104, 101, 110, 32, 50, 32, 101, 108, 115, 101, 32, 51, 41], .str [102, 40, 101, 41, 32, 61, 32, 40, 105, 102, 32, 101, 32, 60, 32, 49, 48, 48, 49, 32, 116, 104, 101, 110, 32, 50, 32, 101, 108, 115, 101, 32, 51, 41]], .lst [.str [], .str [32], .str [102], .str [102, 40, 101, 41], .str [102, 40, 101, 41, 32, 61], .str [102, 40, 101, 41, 32, 61, 32, 49, 59], .str [102, 40, 101, 41, 32, 61, 32, 49, 59, 32, 102, 40, 101, 41, 32, 61, 32, 50], .str [102, 40, 97, 41, 32, 61, 32, 49], .str [102, 40, 101, 124, 41, 32, 61, 32, 49], .str [102, 40, 101, 32, 124, 32, 98, 41, 32, 61, 32, 98], .str [102, 40, 101, 32, 124, 32, 97, 44, 32, 99, 41, 32, 61, 32, 97], .str [102, 40, 101, 32, 124, 32, 97, 44, 32, 97, 41, 32, 61, 32, 97], .str [102, 40, 101, 32, 124, 32, 97, 44, 41, 32, 61, 32, 97], .str [102, 40, 101, 41, 32, 61, 32, 97], .str [102, 40, 101, 41, 32, 61, 32, 40, 49, 32, 43, 32, 50], .str [102, 40, 101, 41, 32, 61, 32, 49, 32, 43, 32, 50], .str [102, 40, 101, 41, 32, 61, 32, 40, 49, 41], .str [102, 40, 101, 41, 32, 61, 32, 40, 49, 32, 47, 32, 50, 41], .str [102, 40, 101, 41, 32, 61, 32, 40, 49, 32, 43, 32, 50, 32, 43, 32, 51, 41], .str [102, 40, 101, 41, 32, 61, 32, 40, 105, 102, 32, 101, 32, 60, 32, 49, 32, 116, 104, 101, 110, 32, 50, 41], .str [102, 40, 101, 41, 32, 61, 32, 105, 102, 32, 101, 32, 60, 32, 49, 32, 116, 104, 101, 110, 32, 50, 32, 101, 108, 115, 101, 32, 51], .str [102, 40, 101, 41, 32, 61, 32, 40, 105, 102, 32, 49, 32, 60, 32, 50, 32, 116, 104, 101, 110, 32, 50, 32, 101, 108, 115, 101, 32, 51, 41], .str [102, 40, 101, 41, 32, 61, 32, 40, 105, 102, 32, 101, 32, 60, 32, 101, 32, 116, 104, 101, 110, 32, 50, 32, 101, 108, 115, 101, 32, 51, 41], .str [102, 40, 101, 41, 32, 61, 32, 40, 105, 102, 32, 101, 32, 60, 32, 49, 48, 48, 49, 32, 116, 104, 101, 110, 32, 50, 32, 101, 108, 115, 101, 32, 51, 41]], .lst [.str [102, 40, 101, 41, 32, 61, 32, 40, 105, 102, 32, 101, 32, 109, 111, 100, 32, 49, 32, 61, 32, 48, 32, 116, 104, 101, 110, 32, 50, 32, 101, 108, 115, 101, 32, 51, 41], .str [102, 40, 101, 41, 32, 61, 32, 40, 105, 102, 32, 101, 32, 109, 111, 100, 32, 55, 32, 61, 32, 48, 32, 116, 104, 101, 110, 32, 50, 32, 101, 108, 115, 101, 32, 51, 41]], .lst [.str [], .str [32], .str [102], .str [102, 40, 101, 41], .str [102, 40, 101, 41, 32, 61], .str [102, 40, 101, 41, 32, 61, 32, 49, 59], .str [102, 40, 101, 41, 32, 61, 32, 49, 59, 32, 102, 40, 101, 41, 32, 61, 32, 50], .str [102, 40, 97, 41, 32, 61, 32, 49], .str [102, 40, 101, 124, 41, 32, 61, 32, 49], .str [102, 40, 101, 32, 124, 32, 98, 41, 32, 61, 32, 98], .str [102, 40, 101, 32, 124, 32, 97, 44, 32, 99, 41, 32, 61, 32, 97], .str [102, 40, 101, 32, 124, 32, 97, 44, 32, 97, 41, 32, 61, 32, 97], .str [102, 40, 101, 32, 124, 32, 97, 44, 41, 32, 61, 32, 97], .str [102, 40, 101, 41, 32, 61, 32, 97], .str [102, 40, 101, 41, 32, 61, 32, 40, 49, 32, 43, 32, 50], .str [102, 40, 101, 41, 32, 61, 32, 49, 32, 43, 32, 50], .str [102, 40, 101, 41, 32, 61, 32, 40, 49, 41], .str [102, 40, 101, 41, 32, 61, 32, 40, 49, 32, 47, 32, 50, 41], .str [102, 40, 101, 41, 32, 61, 32, 40, 49, 32, 43, 32, 50, 32, 43, 32, 51, 41], .str [102, 40, 101, 41, 32, 61, 32, 40, 105, 102, 32, 101, 32, 60, 32, 49, 32, 116, 104, 101, 110, 32, 50, 41], .str [102, 40, 101, 41, 32, 61, 32, 105, 102, 32, 101, 32, 60, 32, 49, 32, 116, 104, 101, 110, 32, 50, 32, 101, 108, 115, 101, 32, 51], .str [102, 40, 101, 41, 32, 61, 32, 40, 105, 102, 32, 49, 32, 60, 32, 50, 32, 116, 104, 101, 110, 32, 50, 32, 101, 108, 115, 101, 32, 51, 41], .str [102, 40, 101, 41, 32, 61, 32, 40, 105, 102, 32, 101, 32, 60, 32, 101, 32, 116, 104, 101, 110, 32, 50, 32, 101, 108, 115, 101, 32, 51, 41], .str [102, 40, 101, 41, 32, 61, 32, 40, 105, 102, 32, 101, 32, 60, 32, 49, 48, 48, 49, 32, 116, 104, 101, 110, 32, 50, 32, 101, 108, 115, 101, 32, 51, 41], .str [102, 40, 101, 41, 32, 61, 32, 40, 105, 102, 32, 101, 32, 109, 111, 100, 32, 49, 32, 61, 32, 48, 32, 116, 104, 101, 110, 32, 50, 32, 101, 108, 115, 101, 32, 51, 41], .str [102, 40, 101, 41, 32, 61, 32, 40, 105, 102, 32, 101, 32, 109, 111, 100, 32, 55, 32, 61, 32, 48, 32, 116, 104, 101, 110, 32, 50, 32, 101, 108, 115, 101, 32, 51, 41]], .lst [.str [102, 40, 101, 41, 32, 61, 32, 40, 105, 102, 32, 101, 32, 109, 111, 100, 32, 51, 32, 61, 32, 51, 32, 116, 104, 101, 110, 32, 50, 32, 101, 108, 115, 101, 32, 51, 41]], .lst [.str [], .str [32], .str [102], .str [102, 40, 101, 41], .str [102, 40, 101, 41, 32, 61], .str [102, 40, 101, 41, 32, 61, 32, 49, 59], .str [102, 40, 101, 41, 32, 61, 32, 49, 59, 32, 102, 40, 101, 41, 32, 61, 32, 50], .str [102, 40, 97, 41, 32, 61, 32, 49], .str [102, 40, 101, 124, 41, 32, 61, 32, 49], .str [102, 40, 101, 32, 124, 32, 98, 41, 32, 61, 32, 98], .str [102, 40, 101, 32, 124, 32, 97, 44, 32, 99, 41, 32, 61, 32, 97], .str [102, 40, 101, 32, 124, 32, 97, 44, 32, 97, 41, 32, 61, 32, 97], .str [102, 40, 101, 32, 124, 32, 97, 44, 41, 32, 61, 32, 97], .str [102, 40, 101, 41, 32, 61, 32, 97], .str [102, 40, 101, 41, 32, 61, 32, 40, 49, 32, 43, 32, 50], .str [102, 40, 101, 41, 32, 61, 32, 49, 32, 43, 32, 50], .str [102, 40, 101, 41, 32, 61, 32, 40, 49, 41], .str [102, 40, 101, 41, 32, 61, 32, 40, 49, 32, 47, 32, 50, 41], .str [102, 40, 101, 41, 32, 61, 32, 40, 49, 32, 43, 32, 50, 32, 43, 32, 51, 41], .str [102, 40, 101, 41, 32, 61, 32, 40, 105, 102, 32, 101, 32, 60, 32, 49, 32, 116, 104, 101, 110, 32, 50, 41], .str [102, 40, 101, 41, 32, 61, 32, 105, 102, 32, 101, 32, 60, 32, 49, 32, 116, 104, 101, 110, 32, 50, 32, 101, 108, 115, 101, 32, 51], .str [102, 40, 101, 41, 32, 61, 32, 40, 105, 102, 32, 49, 32, 60, 32, 50, 32, 116, 104, 101, 110, 32, 50, 32, 101, 108, 115, 101, 32, 51, 41], .str [102, 40, 101, 41, 32, 61, 32, 40, 105, 102, 32, 101, 32, 60, 32, 101, 32, 116, 104, 101, 110, 32, 50, 32, 101, 108, 115, 101, 32, 51, 41], .str [102, 40, 101, 41, 32, 61, 32, 40, 105, 102, 32, 101, 32, 60, 32, 49, 48, 48, 49, 32, 116, 104, 101, 110, 32, 50, 32, 101, 108, 115, 101, 32, 51, 41], .str [102, 40, 101, 41, 32, 61, 32, 40, 105, 102, 32, 101, 32, 109, 111, 100, 32, 49, 32, 61, 32, 48, 32, 116, 104, 101, 110, 32, 50, 32, 101, 108, 115, 101, 32, 51, 41], .str [102, 40, 101, 41, 32, 61, 32, 40, 105, 102, 32, 101, 32, 109, 111, 100, 32, 55, 32, 61, 32, 48, 32, 116, 104, 101, 110, 32, 50, 32, 101, 108, 115, 101, 32, 51, 41], .str [102, 40, 101, 41, 32, 61, 32, 40, 105, 102, 32, 101, 32, 109, 111, 100, 32, 51, 32, 61, 32, 51, 32, 116, 104, 101, 110, 32, 50, 32, 101, 108, 115, 101, 32, 51, 41]], .lst [.str [102, 40, 101, 41, 32, 61, 32, 103, 40, 101, 41], .str [102, 40, 101, 41, 32, 61, 32, 102, 40, 41], .str [102, 40, 101, 41, 32, 61, 32, 102, 40, 49, 48, 48, 49, 41], .str [102, 40, 101, 41, 32, 61, 32, 102, 40, 101, 32, 43, 32, 54, 41], .str [102, 40, 101, 41, 32, 61, 32, 102, 40, 101, 32, 43, 32, 48, 41], .str [102, 40, 101, 41, 32, 61, 32, 102, 40, 101, 32, 124, 41]], .lst [.str [], .str [32], .str [102], .str [102, 40, 101, 41], .str [102, 40, 101, 41, 32, 61], .str [102, 40, 101, 41, 32, 61, 32, 49, 59], .str [102, 40, 101, 41, 32, 61, 32, 49, 59, 32, 102, 40, 101, 41, 32, 61, 32, 50], .str [102, 40, 97, 41, 32, 61, 32, 49], .str [102, 40, 101, 124, 41, 32, 61, 32, 49], .str [102, 40, 101, 32, 124, 32, 98, 41, 32, 61, 32, 98], .str [102, 40, 101, 32, 124, 32, 97, 44, 32, 99, 41, 32, 61, 32, 97], .str [102, 40, 101, 32, 124, 32, 97, 44, 32, 97, 41, 32, 61, 32, 97], .str [102, 40, 101, 32, 124, 32, 97, 44, 41, 32, 61, 32, 97], .str [102, 40, 101, 41, 32, 61, 32, 97], .str [102, 40, 101, 41, 32, 61, 32, 40, 49, 32, 43, 32, 50], .str [102, 40, 101, 41, 32, 61, 32, 49, 32, 43, 32, 50], .str [102, 40, 101, 41, 32, 61, 32, 40, 49, 41], .str [102, 40, 101, 41, 32, 61, 32, 40, 49, 32, 47, 32, 50, 41], .str [102, 40, 101, 41, 32, 61, 32, 40, 49, 32, 43, 32, 50, 32, 43, 32, 51, 41], .str [102, 40, 101, 41, 32, 61, 32, 40, 105, 102, 32, 101, 32, 60, 32, 49, 32, 116, 104, 101, 110, 32, 50, 41], .str [102, 40, 101, 41, 32, 61, 32, 105, 102, 32, 101, 32, 60, 32, 49, 32, 116, 104, 101, 110, 32, 50, 32, 101, 108, 115, 101, 32, 51], .str [102, 40, 101, 41, 32, 61, 32, 40, 105, 102, 32, 49, 32, 60, 32, 50, 32, 116, 104, 101, 110, 32, 50, 32, 101, 108, 115, 101, 32, 51, 41], .str [102, 40, 101, 41, 32, 61, 32, 40, 105, 102, 32, 101, 32, 60, 32, 101, 32, 116, 104, 101, 110, 32, 50, 32, 101, 108, 115, 101, 32, 51, 41], .str [102, 40, 101, 41, 32, 61, 32, 40, 105, 102, 32, 101, 32, 60, 32, 49, 48, 48, 49, 32, 116, 104, 101, 110, 32, 50, 32, 101, 108, 115, 101, 32, 51, 41], .str [102, 40, 101, 41, 32, 61, 32, 40, 105, 102, 32, 101, 32, 109, 111, 100, 32, 49, 32, 61, 32, 48, 32, 116, 104, 101, 110, 32, 50, 32, 101, 108, 115, 101, 32, 51, 41], .str [102, 40, 101, 41, 32, 61, 32, 40, 105, 102, 32, 101, 32, 109, 111, 100, 32, 55, 32, 61, 32, 48, 32, 116, 104, 101, 110, 32, 50, 32, 101, 108, 115, 101, 32, 51, 41], .str [102, 40, 101, 41, 32, 61, 32, 40, 105, 102, 32, 101, 32, 109, 111, 100, 32, 51, 32, 61, 32, 51, 32, 116, 104, 101, 110, 32, 50, 32, 101, 108, 115, 101, 32, 51, 41], .str [102, 40, 101, 41, 32, 61, 32, 103, 40, 101, 41], .str [102, 40, 101, 41, 32, 61, 32, 102, 40, 41], .str [102, 40, 101, 41, 32, 61, 32, 102, 40, 49, 48, 48, 49, 41], .str [102, 40, 101, 41, 32, 61, 32, 102, 40, 101, 32, 43, 32, 54, 41], .str [102, 40, 101, 41, 32, 61, 32, 102, 40, 101, 32, 43, 32, 48, 41], .str [102, 40, 101, 41, 32, 61, 32, 102, 40, 101, 32, 124, 41]], .lst [.str [102, 40, 101, 41, 32, 61, 32, 102, 40, 101, 32, 124, 32, 49, 41], .str [102, 40, 101, 32, 124, 32, 97, 41, 32, 61, 32, 102, 40, 101, 41], .str [102, 40, 101, 32, 124, 32, 97, 41, 32, 61, 32, 102, 40, 101, 32, 124, 32, 97, 44, 32, 97, 41], .str [102, 40, 101, 32, 124, 32, 97, 41, 32, 61, 32, 102, 40, 97, 32, 124, 32, 97, 41], .str [102, 40, 101, 41, 32, 61, 32, 48, 49]], .lst [.str [], .str [32], .str [102], .str [102, 40, 101, 41], .str [102, 40, 101, 41, 32, 61], .str [102, 40, 101, 41, 32, 61, 32, 49, 59], .str [102, 40, 101, 41, 32, 61, 32, 49, 59, 32, 102, 40, 101, 41, 32, 61, 32, 50], .str [102, 40, 97, 41, 32, 61, 32, 49], .str [102, 40, 101, 124, 41, 32, 61, 32, 49], .str [102, 40, 101, 32, 124, 32, 98, 41, 32, 61, 32, 98], .str [102, 40, 101, 32, 124, 32, 97, 44, 32, 99, 41, 32, 61, 32, 97], .str [102, 40, 101, 32, 124, 32, 97, 44, 32, 97, 41, 32, 61, 32, 97], .str [102, 40, 101, 32, 124, 32, 97, 44, 41, 32, 61, 32, 97], .str [102, 40, 101, 41, 32, 61, 32, 97], .str [102, 40, 101, 41, 32, 61, 32, 40, 49, 32, 43, 32, 50], .str [102, 40, 101, 41, 32, 61, 32, 49, 32, 43, 32, 50], .str [102, 40, 101, 41, 32, 61, 32, 40, 49, 41], .str [102, 40, 101, 41, 32, 61, 32, 40, 49, 32, 47, 32, 50, 41], .str [102, 40, 101, 41, 32, 61, 32, 40, 49, 32, 43, 32, 50, 32, 43, 32, 51, 41], .str [102, 40, 101, 41, 32, 61, 32, 40, 105, 102, 32, 101, 32, 60, 32, 49, 32, 116, 104, 101, 110, 32, 50, 41], .str [102, 40, 101, 41, 32, 61, 32, 105, 102, 32, 101, 32, 60, 32, 49, 32, 116, 104, 101, 110, 32, 50, 32, 101, 108, 115, 101, 32, 51], .str [102, 40, 101, 41, 32, 61, 32, 40, 105, 102, 32, 49, 32, 60, 32, 50, 32, 116, 104, 101, 110, 32, 50, 32, 101, 108, 115, 101, 32, 51, 41], .str [102, 40, 101, 41, 32, 61, 32, 40, 105, 102, 32, 101, 32, 60, 32, 101, 32, 116, 104, 101, 110, 32, 50, 32, 101, 108, 115, 101, 32, 51, 41], .str [102, 40, 101, 41, 32, 61, 32, 40, 105, 102, 32, 101, 32, 60, 32, 49, 48, 48, 49, 32, 116, 104, 101, 110, 32, 50, 32, 101, 108, 115, 101, 32, 51, 41], .str [102, 40, 101, 41, 32, 61, 32, 40, 105, 102, 32, 101, 32, 109, 111, 100, 32, 49, 32, 61, 32, 48, 32, 116, 104, 101, 110, 32, 50, 32, 101, 108, 115, 101, 32, 51, 41], .str [102, 40, 101, 41, 32, 61, 32, 40, 105, 102, 32, 101, 32, 109, 111, 100, 32, 55, 32, 61, 32, 48, 32, 116, 104, 101, 110, 32, 50, 32, 101, 108, 115, 101, 32, 51, 41], .str [102, 40, 101, 41, 32, 61, 32, 40, 105, 102, 32, 101, 32, 109, 111, 100, 32, 51, 32, 61, 32, 51, 32, 116, 104, 101, 110, 32, 50, 32, 101, 108, 115, 101, 32, 51, 41], .str [102, 40, 101, 41, 32, 61, 32, 103, 40, 101, 41], .str [102, 40, 101, 41, 32, 61, 32, 102, 40, 41], .str [102, 40, 101, 41, 32, 61, 32, 102, 40, 49, 48, 48, 49, 41], .str [102, 40, 101, 41, 32, 61, 32, 102, 40, 101, 32, 43, 32, 54, 41], .str [102, 40, 101, 41, 32, 61, 32, 102, 40, 101, 32, 43, 32, 48, 41], .str [102, 40, 101, 41, 32, 61, 32, 102, 40, 101, 32, 124, 41], .str [102, 40, 101, 41, 32, 61, 32, 102, 40, 101, 32, 124, 32, 49, 41], .str [102, 40, 101, 32, 124, 32, 97, 41, 32, 61, 32, 102, 40, 101, 41], .str [102, 40, 101, 32, 124, 32, 97, 41, 32, 61, 32, 102, 40, 101, 32, 124, 32, 97, 44, 32, 97, 41], .str [102, 40, 101, 32, 124, 32, 97, 41, 32, 61, 32, 102, 40, 97, 32, 124, 32, 97, 41], .str [102, 40, 101, 41, 32, 61, 32, 48, 49]], .lst [.str [102, 40, 101, 41, 32, 61, 32, 49, 48, 48, 48, 48, 48, 49], .str [102, 40, 101, 41, 32, 61, 32, 49, 120], .str [102, 40, 101, 41, 32, 61, 32, 120, 49]], .lst [.str [], .str [32], .str [102], .str [102, 40, 101, 41], .str [102, 40, 101, 41, 32, 61], .str [102, 40, 101, 41, 32, 61, 32, 49, 59], .str [102, 40, 101, 41, 32, 61, 32, 49, 59, 32, 102, 40, 101, 41, 32, 61, 32, 50], .str [102, 40, 97, 41, 32, 61, 32, 49], .str [102, 40, 101, 124, 41, 32, 61, 32, 49], .str [102, 40, 101, 32, 124, 32, 98, 41, 32, 61, 32, 98], .str [102, 40, 101, 32, 124, 32, 97, 44, 32, 99, 41, 32, 61, 32, 97], .str [102, 40, 101, 32, 124, 32, 97, 44, 32, 97, 41, 32, 61, 32, 97], .str [102, 40, 101, 32, 124, 32, 97, 44, 41, 32, 61, 32, 97], .str [102, 40, 101, 41, 32, 61, 32, 97], .str [102, 40, 101, 41, 32, 61, 32, 40, 49, 32, 43, 32, 50], .str [102, 40, 101, 41, 32, 61, 32, 49, 32, 43, 32, 50], .str [102, 40, 101, 41, 32, 61, 32, 40, 49, 41], .str [102, 40, 101, 41, 32, 61, 32, 40, 49, 32, 47, 32, 50, 41], .str [102, 40, 101, 41, 32, 61, 32, 40, 49, 32, 43, 32, 50, 32, 43, 32, 51, 41], .str [102, 40, 101, 41, 32, 61, 32, 40, 105, 102, 32, 101, 32, 60, 32, 49, 32, 116, 104, 101, 110, 32, 50, 41], .str [102, 40, 101, 41, 32, 61, 32, 105, 102, 32, 101, 32, 60, 32, 49, 32, 116, 104, 101, 110, 32, 50, 32, 101, 108, 115, 101, 32, 51], .str [102, 40, 101, 41, 32, 61, 32, 40, 105, 102, 32, 49, 32, 60, 32, 50, 32, 116, 104, 101, 110, 32, 50, 32, 101, 108, 115, 101, 32, 51, 41], .str [102, 40, 101, 41, 32, 61, 32, 40, 105, 102, 32, 101, 32, 60, 32, 101, 32, 116, 104, 101, 110, 32, 50, 32, 101, 108, 115, 101, 32, 51, 41], .str [102, 40, 101, 41, 32, 61, 32, 40, 105, 102, 32, 101, 32, 60, 32, 49, 48, 48, 49, 32, 116, 104, 101, 110, 32, 50, 32, 101, 108, 115, 101, 32, 51, 41], .str [102, 40, 101, 41, 32, 61, 32, 40, 105, 102, 32, 101, 32, 109, 111, 100, 32, 49, 32, 61, 32, 48, 32, 116, 104, 101, 110, 32, 50, 32, 101, 108, 115, 101, 32, 51, 41], .str [102, 40, 101, 41, 32, 61, 32, 40, 105, 102, 32, 101, 32, 109, 111, 100, 32, 55, 32, 61, 32, 48, 32, 116, 104, 101, 110, 32, 50, 32, 101, 108, 115, 101, 32, 51, 41], .str [102, 40, 101, 41, 32, 61, 32, 40, 105, 102, 32, 101, 32, 109, 111, 100, 32, 51, 32, 61, 32, 51, 32, 116, 104, 101, 110, 32, 50, 32, 101, 108, 115, 101, 32, 51, 41], .str [102, 40, 101, 41, 32, 61, 32, 103, 40, 101, 41], .str [102, 40, 101, 41, 32, 61, 32, 102, 40, 41], .str [102, 40, 101, 41, 32, 61, 32, 102, 40, 49, 48, 48, 49, 41], .str [102, 40, 101, 41, 32, 61, 32, 102, 40, 101, 32, 43, 32, 54, 41], .str [102, 40, 101, 41, 32, 61, 32, 102, 40, 101, 32, 43, 32, 48, 41], .str [102, 40, 101, 41, 32, 61, 32, 102, 40, 101, 32, 124, 41], .str [102, 40, 101, 41, 32, 61, 32, 102, 40, 101, 32, 124, 32, 49, 41], .str [102, 40, 101, 32, 124, 32, 97, 41, 32, 61, 32, 102, 40, 101, 41], .str [102, 40, 101, 32, 124, 32, 97, 41, 32, 61, 32, 102, 40, 101, 32, 124, 32, 97, 44, 32, 97, 41], .str [102, 40, 101, 32, 124, 32, 97, 41, 32, 61, 32, 102, 40, 97, 32, 124, 32, 97, 41], .str [102, 40, 101, 41, 32, 61, 32, 48, 49], .str [102, 40, 101, 41, 32, 61, 32, 49, 48, 48, 48, 48, 48, 49], .str [102, 40, 101, 41, 32, 61, 32, 49, 120], .str [102, 40, 101, 41, 32, 61, 32, 120, 49]], .lst [.str [105, 102, 40, 101, 41, 32, 61, 32, 49], .str [109, 111, 100, 40, 101, 41, 32, 61, 32, 49], .str [97, 40, 101, 41, 32, 61, 32, 49], .str [101, 40, 101, 41, 32, 61, 32, 49], .str [116, 111, 111, 108, 111, 110, 103, 110, 97, 109, 101, 40, 101, 41, 32, 61, 32, 49], .str [70, 40, 101, 41, 32, 61, 32, 49], .str [102, 95, 49, 40, 101, 41, 32, 61, 32, 49]], .lst [.str [], .str [32], .str [102], .str [102, 40, 101, 41], .str [102, 40, 101, 41, 32, 61], .str [102, 40, 101, 41, 32, 61, 32, 49, 59], .str [102, 40, 101, 41, 32, 61, 32, 49, 59, 32, 102, 40, 101, 41, 32, 61, 32, 50], .str [102, 40, 97, 41, 32, 61, 32, 49], .str [102, 40, 101, 124, 41, 32, 61, 32, 49], .str [102, 40, 101, 32, 124, 32, 98, 41, 32, 61, 32, 98], .str [102, 40, 101, 32, 124, 32, 97, 44, 32, 99, 41, 32, 61, 32, 97], .str [102, 40, 101, 32, 124, 32, 97, 44, 32, 97, 41, 32, 61, 32, 97], .str [102, 40, 101, 32, 124, 32, 97, 44, 41, 32, 61, 32, 97], .str [102, 40, 101, 41, 32, 61, 32, 97], .str [102, 40, 101, 41, 32, 61, 32, 40, 49, 32, 43, 32, 50], .str [102, 40, 101, 41, 32, 61, 32, 49, 32, 43, 32, 50], .str [102, 40, 101, 41, 32, 61, 32, 40, 49, 41], .str [102, 40, 101, 41, 32, 61, 32, 40, 49, 32, 47, 32, 50, 41], .str [102, 40, 101, 41, 32, 61, 32, 40, 49, 32, 43, 32, 50, 32, 43, 32, 51, 41], .str [102, 40, 101, 41, 32, 61, 32, 40, 105, 102, 32, 101, 32, 60, 32, 49, 32, 116, 104, 101, 110, 32, 50, 41], .str [102, 40, 101, 41, 32, 61, 32, 105, 102, 32, 101, 32, 60, 32, 49, 32, 116, 104, 101, 110, 32, 50, 32, 101, 108, 115, 101, 32, 51], .str [102, 40, 101, 41, 32, 61, 32, 40, 105, 102, 32, 49, 32, 60, 32, 50, 32, 116, 104, 101, 110, 32, 50, 32, 101, 108, 115, 101, 32, 51, 41], .str [102, 40, 101, 41, 32, 61, 32, 40, 105, 102, 32, 101, 32, 60, 32, 101, 32, 116, 104, 101, 110, 32, 50, 32, 101, 108, 115, 101, 32, 51, 41], .str [102, 40, 101, 41, 32, 61, 32, 40, 105, 102, 32, 101, 32, 60, 32, 49, 48, 48, 49, 32, 116, 104, 101, 110, 32, 50, 32, 101, 108, 115, 101, 32, 51, 41], .str [102, 40, 101, 41, 32, 61, 32, 40, 105, 102, 32, 101, 32, 109, 111, 100, 32, 49, 32, 61, 32, 48, 32, 116, 104, 101, 110, 32, 50, 32, 101, 108, 115, 101, 32, 51, 41], .str [102, 40, 101, 41, 32, 61, 32, 40, 105, 102, 32, 101, 32, 109, 111, 100, 32, 55, 32, 61, 32, 48, 32, 116, 104, 101, 110, 32, 50, 32, 101, 108, 115, 101, 32, 51, 41], .str [102, 40, 101, 41, 32, 61, 32, 40, 105, 102, 32, 101, 32, 109, 111, 100, 32, 51, 32, 61, 32, 51, 32, 116, 104, 101, 110, 32, 50, 32, 101, 108, 115, 101, 32, 51, 41], .str [102, 40, 101, 41, 32, 61, 32, 103, 40, 101, 41], .str [102, 40, 101, 41, 32, 61, 32, 102, 40, 41], .str [102, 40, 101, 41, 32, 61, 32, 102, 40, 49, 48, 48, 49, 41], .str [102, 40, 101, 41, 32, 61, 32, 102, 40, 101, 32, 43, 32, 54, 41], .str [102, 40, 101, 41, 32, 61, 32, 102, 40, 101, 32, 43, 32, 48, 41], .str [102, 40, 101, 41, 32, 61, 32, 102, 40, 101, 32, 124, 41], .str [102, 40, 101, 41, 32, 61, 32, 102, 40, 101, 32, 124, 32, 49, 41], .str [102, 40, 101, 32, 124, 32, 97, 41, 32, 61, 32, 102, 40, 101, 41], .str [102, 40, 101, 32, 124, 32, 97, 41, 32, 61, 32, 102, 40, 101, 32, 124, 32, 97, 44, 32, 97, 41], .str [102, 40, 101, 32, 124, 32, 97, 41, 32, 61, 32, 102, 40, 97, 32, 124, 32, 97, 41], .str [102, 40, 101, 41, 32, 61, 32, 48, 49], .str [102, 40, 101, 41, 32, 61, 32, 49, 48, 48, 48, 48, 48, 49], .str [102, 40, 101, 41, 32, 61, 32, 49, 120], .str [102, 40, 101, 41, 32, 61, 32, 120, 49], .str [105, 102, 40, 101, 41, 32, 61, 32, 49], .str [109, 111, 100, 40, 101, 41, 32, 61, 32, 49], .str [97, 40, 101, 41, 32, 61, 32, 49], .str [101, 40, 101, 41, 32, 61, 32, 49], .str [116, 111, 111, 108, 111, 110, 103, 110, 97, 109, 101, 40, 101, 41, 32, 61, 32, 49], .str [70, 40, 101, 41, 32, 61, 32, 49], .str [102, 95, 49, 40, 101, 41, 32, 61, 32, 49]], .lst [.str [102, 40, 101, 41, 32, 61, 32, 40, 97, 32, 43, 32, 49, 41], .str [102, 40, 101, 41, 32, 61, 61, 32, 49], .str [102, 40, 101, 41, 32, 61, 32, 49, 32, 102], .str [102, 40, 101, 32, 124, 32, 97, 44, 32, 98, 44, 32, 99, 44, 32, 100, 44, 32, 101, 41, 32, 61, 32, 49], .str [102, 40, 101, 32, 124, 32, 97, 44, 32, 98, 44, 32, 99, 44, 32, 100, 44, 32, 97, 41, 32, 61, 32, 49], .str [102, 40, 101, 41, 32, 61, 32, 45, 49]], .lst [.str [], .str [32], .str [102], .str [102, 40, 101, 41], .str [102, 40, 101, 41, 32, 61], .str [102, 40, 101, 41, 32, 61, 32, 49, 59], .str [102, 40, 101, 41, 32, 61, 32, 49, 59, 32, 102, 40, 101, 41, 32, 61, 32, 50], .str [102, 40, 97, 41, 32, 61, 32, 49], .str [102, 40, 101, 124, 41, 32, 61, 32, 49], .str [102, 40, 101, 32, 124, 32, 98, 41, 32, 61, 32, 98], .str [102, 40, 101, 32, 124, 32, 97, 44, 32, 99, 41, 32, 61, 32, 97], .str [102, 40, 101, 32, 124, 32, 97, 44, 32, 97, 41, 32, 61, 32, 97], .str [102, 40, 101, 32, 124, 32, 97, 44, 41, 32, 61, 32, 97], .str [102, 40, 101, 41, 32, 61, 32, 97], .str [102, 40, 101, 41, 32, 61, 32, 40, 49, 32, 43, 32, 50], .str [102, 40, 101, 41, 32, 61, 32, 49, 32, 43, 32, 50], .str [102, 40, 101, 41, 32, 61, 32, 40, 49, 41], .str [102, 40, 101, 41, 32, 61, 32, 40, 49, 32, 47, 32, 50, 41], .str [102, 40, 101, 41, 32, 61, 32, 40, 49, 32, 43, 32, 50, 32, 43, 32, 51, 41], .str [102, 40, 101, 41, 32, 61, 32, 40, 105, 102, 32, 101, 32, 60, 32, 49, 32, 116, 104, 101, 110, 32, 50, 41], .str [102, 40, 101, 41, 32, 61, 32, 105, 102, 32, 101, 32, 60, 32, 49, 32, 116, 104, 101, 110, 32, 50, 32, 101, 108, 115, 101, 32, 51], .str [102, 40, 101, 41, 32, 61, 32, 40, 105, 102, 32, 49, 32, 60, 32, 50, 32, 116, 104, 101, 110, 32, 50, 32, 101, 108, 115, 101, 32, 51, 41], .str [102, 40, 101, 41, 32, 61, 32, 40, 105, 102, 32, 101, 32, 60, 32, 101, 32, 116, 104, 101, 110, 32, 50, 32, 101, 108, 115, 101, 32, 51, 41], .str [102, 40, 101, 41, 32, 61, 32, 40, 105, 102, 32, 101, 32, 60, 32, 49, 48, 48, 49, 32, 116, 104, 101, 110, 32, 50, 32, 101, 108, 115, 101, 32, 51, 41], .str [102, 40, 101, 41, 32, 61, 32, 40, 105, 102, 32, 101, 32, 109, 111, 100, 32, 49, 32, 61, 32, 48, 32, 116, 104, 101, 110, 32, 50, 32, 101, 108, 115, 101, 32, 51, 41], .str [102, 40, 101, 41, 32, 61, 32, 40, 105, 102, 32, 101, 32, 109, 111, 100, 32, 55, 32, 61, 32, 48, 32, 116, 104, 101, 110, 32, 50, 32, 101, 108, 115, 101, 32, 51, 41], .str [102, 40, 101, 41, 32, 61, 32, 40, 105, 102, 32, 101, 32, 109, 111, 100, 32, 51, 32, 61, 32, 51, 32, 116, 104, 101, 110, 32, 50, 32, 101, 108, 115, 101, 32, 51, 41], .str [102, 40, 101, 41, 32, 61, 32, 103, 40, 101, 41], .str [102, 40, 101, 41, 32, 61, 32, 102, 40, 41], .str [102, 40, 101, 41, 32, 61, 32, 102, 40, 49, 48, 48, 49, 41], .str [102, 40, 101, 41, 32, 61, 32, 102, 40, 101, 32, 43, 32, 54, 41], .str [102, 40, 101, 41, 32, 61, 32, 102, 40, 101, 32, 43, 32, 48, 41], .str [102, 40, 101, 41, 32, 61, 32, 102, 40, 101, 32, 124, 41], .str [102, 40, 101, 41, 32, 61, 32, 102, 40, 101, 32, 124, 32, 49, 41], .str [102, 40, 101, 32, 124, 32, 97, 41, 32, 61, 32, 102, 40, 101, 41], .str [102, 40, 101, 32, 124, 32, 97, 41, 32, 61, 32, 102, 40, 101, 32, 124, 32, 97, 44, 32, 97, 41], .str [102, 40, 101, 32, 124, 32, 97, 41, 32, 61, 32, 102, 40, 97, 32, 124, 32, 97, 41], .str [102, 40, 101, 41, 32, 61, 32, 48, 49], .str [102, 40, 101, 41, 32, 61, 32, 49, 48, 48, 48, 48, 48, 49], .str [102, 40, 101, 41, 32, 61, 32, 49, 120], .str [102, 40, 101, 41, 32, 61, 32, 120, 49], .str [105, 102, 40, 101, 41, 32, 61, 32, 49], .str [109, 111, 100, 40, 101, 41, 32, 61, 32, 49], .str [97, 40, 101, 41, 32, 61, 32, 49], .str [101, 40, 101, 41, 32, 61, 32, 49], .str [116, 111, 111, 108, 111, 110, 103, 110, 97, 109, 101, 40, 101, 41, 32, 61, 32, 49], .str [70, 40, 101, 41, 32, 61, 32, 49], .str [102, 95, 49, 40, 101, 41, 32, 61, 32, 49], .str [102, 40, 101, 41, 32, 61, 32, 40, 97, 32, 43, 32, 49, 41], .str [102, 40, 101, 41, 32, 61, 61, 32, 49], .str [102, 40, 101, 41, 32, 61, 32, 49, 32, 102], .str [102, 40, 101, 32, 124, 32, 97, 44, 32, 98, 44, 32, 99, 44, 32, 100, 44, 32, 101, 41, 32, 61, 32, 49], .str [102, 40, 101, 32, 124, 32, 97, 44, 32, 98, 44, 32, 99, 44, 32, 100, 44, 32, 97, 41, 32, 61, 32, 49], .str [102, 40, 101, 41, 32, 61, 32, 45, 49]], .lst [.str [102, 40, 101, 41, 32, 61, 32, 40, 105, 102, 97, 32, 60, 32, 49, 32, 116, 104, 101, 110, 32, 49, 32, 101, 108, 115, 101, 32, 50, 41]], .lst [.str [], .str [32], .str [102], .str [102, 40, 101, 41], .str [102, 40, 101, 41, 32, 61], .str [102, 40, 101, 41, 32, 61, 32, 49, 59], .str [102, 40, 101, 41, 32, 61, 32, 49, 59, 32, 102, 40, 101, 41, 32, 61, 32, 50], .str [102, 40, 97, 41, 32, 61, 32, 49], .str [102, 40, 101, 124, 41, 32, 61, 32, 49], .str [102, 40, 101, 32, 124, 32, 98, 41, 32, 61, 32, 98], .str [102, 40, 101, 32, 124, 32, 97, 44, 32, 99, 41, 32, 61, 32, 97], .str [102, 40, 101, 32, 124, 32, 97, 44, 32, 97, 41, 32, 61, 32, 97], .str [102, 40, 101, 32, 124, 32, 97, 44, 41, 32, 61, 32, 97], .str [102, 40, 101, 41, 32, 61, 32, 97], .str [102, 40, 101, 41, 32, 61, 32, 40, 49, 32, 43, 32, 50], .str [102, 40, 101, 41, 32, 61, 32, 49, 32, 43, 32, 50], .str [102, 40, 101, 41, 32, 61, 32, 40, 49, 41], .str [102, 40, 101, 41, 32, 61, 32, 40, 49, 32, 47, 32, 50, 41], .str [102, 40, 101, 41, 32, 61, 32, 40, 49, 32, 43, 32, 50, 32, 43, 32, 51, 41], .str [102, 40, 101, 41, 32, 61, 32, 40, 105, 102, 32, 101, 32, 60, 32, 49, 32, 116, 104, 101, 110, 32, 50, 41], .str [102, 40, 101, 41, 32, 61, 32, 105, 102, 32, 101, 32, 60, 32, 49, 32, 116, 104, 101, 110, 32, 50, 32, 101, 108, 115, 101, 32, 51], .str [102, 40, 101, 41, 32, 61, 32, 40, 105, 102, 32, 49, 32, 60, 32, 50, 32, 116, 104, 101, 110, 32, 50, 32, 101, 108, 115, 101, 32, 51, 41], .str [102, 40, 101, 41, 32, 61, 32, 40, 105, 102, 32, 101, 32, 60, 32, 101, 32, 116, 104, 101, 110, 32, 50, 32, 101, 108, 115, 101, 32, 51, 41], .str [102, 40, 101, 41, 32, 61, 32, 40, 105, 102, 32, 101, 32, 60, 32, 49, 48, 48, 49, 32, 116, 104, 101, 110, 32, 50, 32, 101, 108, 115, 101, 32, 51, 41], .str [102, 40, 101, 41, 32, 61, 32, 40, 105, 102, 32, 101, 32, 109, 111, 100, 32, 49, 32, 61, 32, 48, 32, 116, 104, 101, 110, 32, 50, 32, 101, 108, 115, 101, 32, 51, 41], .str [102, 40, 101, 41, 32, 61, 32, 40, 105, 102, 32, 101, 32, 109, 111, 100, 32, 55, 32, 61, 32, 48, 32, 116, 104, 101, 110, 32, 50, 32, 101, 108, 115, 101, 32, 51, 41], .str [102, 40, 101, 41, 32, 61, 32, 40, 105, 102, 32, 101, 32, 109, 111, 100, 32, 51, 32, 61, 32, 51, 32, 116, 104, 101, 110, 32, 50, 32, 101, 108, 115, 101, 32, 51, 41], .str [102, 40, 101, 41, 32, 61, 32, 103, 40, 101, 41], .str [102, 40, 101, 41, 32, 61, 32, 102, 40, 41], .str [102, 40, 101, 41, 32, 61, 32, 102, 40, 49, 48, 48, 49, 41], .str [102, 40, 101, 41, 32, 61, 32, 102, 40, 101, 32, 43, 32, 54, 41], .str [102, 40, 101, 41, 32, 61, 32, 102, 40, 101, 32, 43, 32, 48, 41], .str [102, 40, 101, 41, 32, 61, 32, 102, 40, 101, 32, 124, 41], .str [102, 40, 101, 41, 32, 61, 32, 102, 40, 101, 32, 124, 32, 49, 41], .str [102, 40, 101, 32, 124, 32, 97, 41, 32, 61, 32, 102, 40, 101, 41], .str [102, 40, 101, 32, 124, 32, 97, 41, 32, 61, 32, 102, 40, 101, 32, 124, 32, 97, 44, 32, 97, 41], .str [102, 40, 101, 32, 124, 32, 97, 41, 32, 61, 32, 102, 40, 97, 32, 124, 32, 97, 41], .str [102, 40, 101, 41, 32, 61, 32, 48, 49], .str [102, 40, 101, 41, 32, 61, 32, 49, 48, 48, 48, 48, 48, 49], .str [102, 40, 101, 41, 32, 61, 32, 49, 120], .str [102, 40, 101, 41, 32, 61, 32, 120, 49], .str [105, 102, 40, 101, 41, 32, 61, 32, 49], .str [109, 111, 100, 40, 101, 41, 32, 61, 32, 49], .str [97, 40, 101, 41, 32, 61, 32, 49], .str [101, 40, 101, 41, 32, 61, 32, 49], .str [116, 111, 111, 108, 111, 110, 103, 110, 97, 109, 101, 40, 101, 41, 32, 61, 32, 49], .str [70, 40, 101, 41, 32, 61, 32, 49], .str [102, 95, 49, 40, 101, 41, 32, 61, 32, 49], .str [102, 40, 101, 41, 32, 61, 32, 40, 97, 32, 43, 32, 49, 41], .str [102, 40, 101, 41, 32, 61, 61, 32, 49], .str [102, 40, 101, 41, 32, 61, 32, 49, 32, 102], .str [102, 40, 101, 32, 124, 32, 97, 44, 32, 98, 44, 32, 99, 44, 32, 100, 44, 32, 101, 41, 32, 61, 32, 49], .str [102, 40, 101, 32, 124, 32, 97, 44, 32, 98, 44, 32, 99, 44, 32, 100, 44, 32, 97, 41, 32, 61, 32, 49], .str [102, 40, 101, 41, 32, 61, 32, 45, 49], .str [102, 40, 101, 41, 32, 61, 32, 40, 105, 102, 97, 32, 60, 32, 49, 32, 116, 104, 101, 110, 32, 49, 32, 101, 108, 115, 101, 32, 50, 41]]]
def E_0 (sp : List Nat) : En := [none, none, some (.str sp), some (.ob 24), none, none, none, none, none]
def T_1 : List D := [.str [], .str [32], .str [102], .str [102, 40, 101, 41], .str [102, 40, 101, 41, 32, 61], .str [102, 40, 101, 41, 32, 61, 32, 49, 59], .str [102, 40, 101, 41, 32, 61, 32, 49, 59, 32, 102, 40, 101, 41, 32, 61, 32, 50], .str [102, 40, 97, 41, 32, 61, 32, 49], .str [102, 40, 101, 124, 41, 32, 61, 32, 49], .str [102, 40, 101, 32, 124, 32, 98, 41, 32, 61, 32, 98], .str [102, 40, 101, 32, 124, 32, 97, 44, 32, 99, 41, 32, 61, 32, 97], .str [102, 40, 101, 32, 124, 32, 97, 44, 32, 97, 41, 32, 61, 32, 97], .str [102, 40, 101, 32, 124, 32, 97, 44, 41, 32, 61, 32, 97], .str [102, 40, 101, 41, 32, 61, 32, 97], .str [102, 40, 101, 41, 32, 61, 32, 40, 49, 32, 43, 32, 50], .str [102, 40, 101, 41, 32, 61, 32, 49, 32, 43, 32, 50], .str [102, 40, 101, 41, 32, 61, 32, 40, 49, 41], .str [102, 40, 101, 41, 32, 61, 32, 40, 49, 32, 47, 32, 50, 41], .str [102, 40, 101, 41, 32, 61, 32, 40, 49, 32, 43, 32, 50, 32, 43, 32, 51, 41], .str [102, 40, 101, 41, 32, 61, 32, 40, 105, 102, 32, 101, 32, 60, 32, 49, 32, 116, 104, 101, 110, 32, 50, 41], .str [102, 40, 101, 41, 32, 61, 32, 105, 102, 32, 101, 32, 60, 32, 49, 32, 116, 104, 101, 110, 32, 50, 32, 101, 108, 115, 101, 32, 51], .str [102, 40, 101, 41, 32, 61, 32, 40, 105, 102, 32, 49, 32, 60, 32, 50, 32, 116, 104, 101, 110, 32, 50, 32, 101, 108, 115, 101, 32, 51, 41], .str [102, 40, 101, 41, 32, 61, 32, 40, 105, 102, 32, 101, 32, 60, 32, 101, 32, 116, 104, 101, 110, 32, 50, 32, 101, 108, 115, 101, 32, 51, 41], .str [102, 40, 101, 41, 32, 61, 32, 40, 105, 102, 32, 101, 32, 60, 32, 49, 48, 48, 49, 32, 116, 104, 101, 110, 32, 50, 32, 101, 108, 115, 101, 32, 51, 41], .str [102, 40, 101, 41, 32, 61, 32, 40, 105, 102, 32, 101, 32, 109, 111, 100, 32, 49, 32, 61, 32, 48, 32, 116, 104, 101, 110, 32, 50, 32, 101, 108, 115, 101, 32, 51, 41], .str [102, 40, 101, 41, 32, 61, 32, 40, 105, 102, 32, 101, 32, 109, 111, 100, 32, 55, 32, 61, 32, 48, 32, 116, 104, 101, 110, 32, 50, 32, 101, 108, 115, 101, 32, 51, 41], .str [102, 40, 101, 41, 32, 61, 32, 40, 105, 102, 32, 101, 32, 109, 111, 100, 32, 51, 32, 61, 32, 51, 32, 116, 104, 101, 110, 32, 50, 32, 101, 108, 115, 101, 32, 51, 41], .str [102, 40, 101, 41, 32, 61, 32, 103, 40, 101, 41], .str [102, 40, 101, 41, 32, 61, 32, 102, 40, 41], .str [102, 40, 101, 41, 32, 61, 32, 102, 40, 49, 48, 48, 49, 41], .str [102, 40, 101, 41, 32, 61, 32, 102, 40, 101, 32, 43, 32, 54, 41], .str [102, 40, 101, 41, 32, 61, 32, 102, 40, 101, 32, 43, 32, 48, 41], .str [102, 40, 101, 41, 32, 61, 32, 102, 40, 101, 32, 124, 41], .str [102, 40, 101, 41, 32, 61, 32, 102, 40, 101, 32, 124, 32, 49, 41], .str [102, 40, 101, 32, 124, 32, 97, 41, 32, 61, 32, 102, 40, 101, 41], .str [102, 40, 101, 32, 124, 32, 97, 41, 32, 61, 32, 102, 40, 101, 32, 124, 32, 97, 44, 32, 97, 41], .str [102, 40, 101, 32, 124, 32, 97, 41, 32, 61, 32, 102, 40, 97, 32, 124, 32, 97, 41], .str [102, 40, 101, 41, 32, 61, 32, 48, 49], .str [102, 40, 101, 41, 32, 61, 32, 49, 48, 48, 48, 48, 48, 49], .str [102, 40, 101, 41, 32, 61, 32, 49, 120], .str [102, 40, 101, 41, 32, 61, 32, 120, 49], .str [105, 102, 40, 101, 41, 32, 61, 32, 49], .str [109, 111, 100, 40, 101, 41, 32, 61, 32, 49], .str [97, 40, 101, 41, 32, 61, 32, 49], .str [101, 40, 101, 41, 32, 61, 32, 49], .str [116, 111, 111, 108, 111, 110, 103, 110, 97, 109, 101, 40, 101, 41, 32, 61, 32, 49], .str [70, 40, 101, 41, 32, 61, 32, 49], .str [102, 95, 49, 40, 101, 41, 32, 61, 32, 49], .str [102, 40, 101, 41, 32, 61, 32, 40, 97, 32, 43, 32, 49, 41], .str [102, 40, 101, 41, 32, 61, 61, 32, 49], .str [102, 40, 101, 41, 32, 61, 32, 49, 32, 102], .str [102, 40, 101, 32, 124, 32, 97, 44, 32, 98, 44, 32, 99, 44, 32, 100, 44, 32, 101, 41, 32, 61, 32, 49], .str [102, 40, 101, 32, 124, 32, 97, 44, 32, 98, 44, 32, 99, 44, 32, 100, 44, 32, 97, 41, 32, 61, 32, 49], .str [102, 40, 101, 41, 32, 61, 32, 45, 49], .str [102, 40, 101, 41, 32, 61, 32, 40, 105, 102, 97, 32, 60, 32, 49, 32, 116, 104, 101, 110, 32, 49, 32, 101, 108, 115, 101, 32, 50, 41]]
def E_1 (sp : List Nat) : En := envAt nx4 T_1 (E_0 sp) 55
def chk_1 (sp : List Nat) (k : Nat) : Bool := turnB (lb_13 (fsN 60)) nx4 T_1 (E_0 sp) S_0 k
def S_2 : Sto := [.lst [.str [], .str [32], .str [102], .str [102, 40, 101, 41], .str [102, 40, 101, 41, 32, 61], .str [102, 40, 101, 41, 32, 61, 32, 49, 59], .str [102, 40, 101, 41, 32, 61, 32, 49, 59, 32, 102, 40, 101, 41, 32, 61, 32, 50], .str [102, 40, 97, 41, 32, 61, 32, 49], .str [102, 40, 101, 124, 41, 32, 61, 32, 49], .str [102, 40, 101, 32, 124, 32, 98, 41, 32, 61, 32, 98]], .lst [.str [102, 40, 101, 32, 124, 32, 97, 44, 32, 99, 41, 32, 61, 32, 97], .str [102, 40, 101, 32, 124, 32, 97, 44, 32, 97, 41, 32, 61, 32, 97]], .lst [.str [], .str [32], .str [102], .str [102, 40, 101, 41], .str [102, 40, 101, 41, 32, 61], .str [102, 40, 101, 41, 32, 61, 32, 49, 59], .str [102, 40, 101, 41, 32, 61, 32, 49, 59, 32, 102, 40, 101, 41, 32, 61, 32, 50], .str [102, 40, 97, 41, 32, 61, 32, 49], .str [102, 40, 101, 124, 41, 32, 61, 32, 49], .str [102, 40, 101, 32, 124, 32, 98, 41, 32, 61, 32, 98], .str [102, 40, 101, 32, 124, 32, 97, 44, 32, 99, 41, 32, 61, 32, 97], .str [102, 40, 101, 32, 124, 32, 97, 44, 32, 97, 41, 32, 61, 32, 97]], .lst [.str [102, 40, 101, 32, 124, 32, 97, 44, 41, 32, 61, 32, 97], .str [102, 40, 101, 41, 32, 61, 32, 97], .str [102, 40, 101, 41, 32, 61, 32, 40, 49, 32, 43, 32, 50], .str [102, 40, 101, 41, 32, 61, 32, 49, 32, 43, 32, 50], .str [102, 40, 101, 41, 32, 61, 32, 40, 49, 41], .str [102, 40, 101, 41, 32, 61, 32, 40, 49, 32, 47, 32, 50, 41]], .lst [.str [], .str [32], .str [102], .str [102, 40, 101, 41], .str [102, 40, 101, 41, 32, 61], .str [102, 40, 101, 41, 32, 61, 32, 49, 59], .str [102, 40, 101, 41, 32, 61, 32, 49, 59, 32, 102, 40, 101, 41, 32, 61, 32, 50], .str [102, 40, 97, 41, 32, 61, 32, 49], .str [102, 40, 101, 124, 41, 32, 61, 32, 49], .str [102, 40, 101, 32, 124, 32, 98, 41, 32, 61, 32, 98], .str [102, 40, 101, 32, 124, 32, 97, 44, 32, 99, 41, 32, 61, 32, 97], .str [102, 40, 101, 32, 124, 32, 97, 44, 32, 97, 41, 32, 61, 32, 97], .str [102, 40, 101, 32, 124, 32, 97, 44, 41, 32, 61, 32, 97], .str [102, 40, 101, 41, 32, 61, 32, 97], .str [102, 40, 101, 41, 32, 61, 32, 40, 49, 32, 43, 32, 50], .str [102, 40, 101, 41, 32, 61, 32, 49, 32, 43, 32, 50], .str [102, 40, 101, 41, 32, 61, 32, 40, 49, 41], .str [102, 40, 101, 41, 32, 61, 32, 40, 49, 32, 47, 32, 50, 41]], .lst [.str [102, 40, 101, 41, 32, 61, 32, 40, 49, 32, 43, 32, 50, 32, 43, 32, 51, 41], .str [102, 40, 101, 41, 32, 61, 32, 40, 105, 102, 32, 101, 32, 60, 32, 49, 32, 116, 104, 101, 110, 32, 50, 41], .str [102, 40, 101, 41, 32, 61, 32, 105, 102, 32, 101, 32, 60, 32, 49, 32, 116, 104, 101, 110, 32, 50, 32, 101, 108, 115, 101, 32, 51]], .lst [.str [], .str [32], .str [102], .str [102, 40, 101, 41], .str [102, 40, 101, 41, 32, 61], .str [102, 40, 101, 41, 32, 61, 32, 49, 59], .str [102, 40, 101, 41, 32, 61, 32, 49, 59, 32, 102, 40, 101, 41, 32, 61, 32, 50], .str [102, 40, 97, 41, 32, 61, 32, 49], .str [102, 40, 101, 124, 41, 32, 61, 32, 49], .str [102, 40, 101, 32, 124, 32, 98, 41, 32, 61, 32, 98], .str [102, 40, 101, 32, 124, 32, 97, 44, 32, 99, 41, 32, 61, 32, 97], .str [102, 40, 101, 32, 124, 32, 97, 44, 32, 97, 41, 32, 61, 32, 97], .str [102, 40, 101, 32, 124, 32, 97, 44, 41, 32, 61, 32, 97], .str [102, 40, 101, 41, 32, 61, 32, 97], .str [102, 40, 101, 41, 32, 61, 32, 40, 49, 32, 43, 32, 50], .str [102, 40, 101, 41, 32, 61, 32, 49, 32, 43, 32, 50], .str [102, 40, 101, 41, 32, 61, 32, 40, 49, 41], .str [102, 40, 101, 41, 32, 61, 32, 40, 49, 32, 47, 32, 50, 41], .str [102, 40, 101, 41, 32, 61, 32, 40, 49, 32, 43, 32, 50, 32, 43, 32, 51, 41], .str [102, 40, 101, 41, 32, 61, 32, 40, 105, 102, 32, 101, 32, 60, 32, 49, 32, 116, 104, 101, 110, 32, 50, 41], .str [102, 40, 101, 41, 32, 61, 32, 105, 102, 32, 101, 32, 60, 32, 49, 32, 116, 104, 101, 110, 32, 50, 32, 101, 108, 115, 101, 32, 51]], .lst [.str [102, 40, 101, 41, 32, 61, 32, 40, 105, 102, 32, 49, 32, 60, 32, 50, 32, 116, 104, 101, 110, 32, 50, 32, 101, 108, 115, 101, 32, 51, 41], .str [102, 40, 101, 41, 32, 61, 32, 40, 105, 102, 32, 101, 32, 60, 32, 101, 32, 116, 104, 101, 110, 32, 50, 32, 101, 108, 115, 101, 32, 51, 41], .str [102, 40, 101, 41, 32, 61, 32, 40, 105, 102, 32, 101, 32, 60, 32, 49, 48, 48, 49, 32, 116, 104, 101, 110, 32, 50, 32, 101, 108, 115, 101, 32, 51, 41]], .lst [.str [], .str [32], .str [102], .str [102, 40, 101, 41], .str [102, 40, 101, 41, 32, 61], .str [102, 40, 101, 41, 32, 61, 32, 49, 59], .str [102, 40, 101, 41, 32, 61, 32, 49, 59, 32, 102, 40, 101, 41, 32, 61, 32, 50], .str [102, 40, 97, 41, 32, 61, 32, 49], .str [102, 40, 101, 124, 41, 32, 61, 32, 49], .str [102, 40, 101, 32, 124, 32, 98, 41, 32, 61, 32, 98], .str [102, 40, 101, 32, 124, 32, 97, 44, 32, 99, 41, 32, 61, 32, 97], .str [102, 40, 101, 32, 124, 32, 97, 44, 32, 97, 41, 32, 61, 32, 97], .str [102, 40, 101, 32, 124, 32, 97, 44, 41, 32, 61, 32, 97], .str [102, 40, 101, 41, 32, 61, 32, 97], .str [102, 40, 101, 41, 32, 61, 32, 40, 49, 32, 43, 32, 50], .str [102, 40, 101, 41, 32, 61, 32, 49, 32, 43, 32, 50], .str [102, 40, 101, 41, 32, 61, 32, 40, 49, 41], .str [102, 40, 101, 41, 32, 61, 32, 40, 49, 32, 47, 32, 50, 41], .str [102, 40, 101, 41, 32, 61, 32, 40, 49, 32, 43, 32, 50, 32, 43, 32, 51, 41], .str [102, 40, 101, 41, 32, 61, 32, 40, 105, 102, 32, 101, 32, 60, 32, 49, 32, 116, 104, 101, 110, 32, 50, 41], .str [102, 40, 101, 41, 32, 61, 32, 105, 102, 32, 101, 32, 60, 32, 49, 32, 116, 104, 101, 110, 32, 50, 32, 101, 108, 115, 101, 32, 51], .str [102, 40, 101, 41, 32, 61, 32, 40, 105, 102, 32, 49, 32, 60, 32, 50, 32, 116, 104, 101, 110, 32, 50, 32, 101, 108, 115, 101, 32, 51, 41], .str [102, 40, 101, 41, 32, 61, 32, 40, 105, 102, 32, 101, 32, 60, 32, 101, 32, 116, 104, 101, 110, 32, 50, 32, 101, 108, 115, 101, 32, 51, 41], .str [102, 40, 101, 41, 32, 61, 32, 40, 105, 102, 32, 101, 32, 60, 32, 49, 48, 48, 49, 32, 116, 104, 101, 110, 32, 50, 32, 101, 108, 115, 101, 32, 51, 41]], .lst [.str [102, 40, 101, 41, 32, 61, 32, 40, 105, 102, 32, 101, 32, 109, 111, 100, 32, 49, 32, 61, 32, 48, 32, 116, 104, 101, 110, 32, 50, 32, 101, 108, 115, 101, 32, 51, 41], .str [102, 40, 101, 41, 32, 61, 32, 40, 105, 102, 32, 101, 32, 109, 111, 100, 32, 55, 32, 61, 32, 48, 32, 116, 104, 101, 110, 32, 50, 32, 101, 108, 115, 101, 32, 51, 41]], .lst [.str [], .str [32], .str [102], .str [102, 40, 101, 41], .str [102, 40, 101, 41, 32, 61], .str [102, 40, 101, 41, 32, 61, 32, 49, 59], .str [102, 40, 101, 41, 32, 61, 32, 49, 59, 32, 102, 40, 101, 41, 32, 61, 32, 50], .str [102, 40, 97, 41, 32, 61, 32, 49], .str [102, 40, 101, 124, 41, 32, 61, 32, 49], .str [102, 40, 101, 32, 124, 32, 98, 41, 32, 61, 32, 98], .str [102, 40, 101, 32, 124, 32, 97, 44, 32, 99, 41, 32, 61, 32, 97], .str [102, 40, 101, 32, 124, 32, 97, 44, 32, 97, 41, 32, 61, 32, 97], .str [102, 40, 101, 32, 124, 32, 97, 44, 41, 32, 61, 32, 97], .str [102, 40, 101, 41, 32, 61, 32, 97], .str [102, 40, 101, 41, 32, 61, 32, 40, 49, 32, 43, 32, 50], .str [102, 40, 101, 41, 32, 61, 32, 49, 32, 43, 32, 50], .str [102, 40, 101, 41, 32, 61, 32, 40, 49, 41], .str [102, 40, 101, 41, 32, 61, 32, 40, 49, 32, 47, 32, 50, 41], .str [102, 40, 101, 41, 32, 61, 32, 40, 49, 32, 43, 32, 50, 32, 43, 32, 51, 41], .str [102, 40, 101, 41, 32, 61, 32, 40, 105, 102, 32, 101, 32, 60, 32, 49, 32, 116, 104, 101, 110, 32, 50, 41], .str [102, 40, 101, 41, 32, 61, 32, 105, 102, 32, 101, 32, 60, 32, 49, 32, 116, 104, 101, 110, 32, 50, 32, 101, 108, 115, 101, 32, 51], .str [102, 40, 101, 41, 32, 61, 32, 40, 105, 102, 32, 49, 32, 60, 32, 50, 32, 116, 104, 101, 110, 32, 50, 32, 101, 108, 115, 101, 32, 51, 41], .str [102, 40, 101, 41, 32, 61, 32, 40, 105, 102, 32, 101, 32, 60, 32, 101, 32, 116, 104, 101, 110, 32, 50, 32, 101, 108, 115, 101, 32, 51, 41], .str [102, 40, 101, 41, 32, 61, 32, 40, 105, 102, 32, 101, 32, 60, 32, 49, 48, 48, 49, 32, 116, 104, 101, 110, 32, 50, 32, 101, 108, 115, 101, 32, 51, 41], .str [102, 40, 101, 41, 32, 61, 32, 40, 105, 102, 32, 101, 32, 109, 111, 100, 32, 49, 32, 61, 32, 48, 32, 116, 104, 101, 110, 32, 50, 32, 101, 108, 115, 101, 32, 51, 41], .str [102, 40, 101, 41, 32, 61, 32, 40, 105, 102, 32, 101, 32, 109, 111, 100, 32, 55, 32, 61, 32, 48, 32, 116, 104, 101, 110, 32, 50, 32, 101, 108, 115, 101, 32, 51, 41]], .lst [.str [102, 40, 101, 41, 32, 61, 32, 40, 105, 102, 32, 101, 32, 109, 111, 100, 32, 51, 32, 61, 32, 51, 32, 116, 104, 101, 110, 32, 50, 32, 101, 108, 115, 101, 32, 51, 41]], .lst [.str [], .str [32], .str [102], .str [102, 40, 101, 41], .str [102, 40, 101, 41, 32, 61], .str [102, 40, 101, 41, 32, 61, 32, 49, 59], .str [102, 40, 101, 41, 32, 61, 32, 49, 59, 32, 102, 40, 101, 41, 32, 61, 32, 50], .str [102, 40, 97, 41, 32, 61, 32, 49], .str [102, 40, 101, 124, 41, 32, 61, 32, 49], .str [102, 40, 101, 32, 124, 32, 98, 41, 32, 61, 32, 98], .str [102, 40, 101, 32, 124, 32, 97, 44, 32, 99, 41, 32, 61, 32, 97], .str [102, 40, 101, 32, 124, 32, 97, 44, 32, 97, 41, 32, 61, 32, 97], .str [102, 40, 101, 32, 124, 32, 97, 44, 41, 32, 61, 32, 97], .str [102, 40, 101, 41, 32, 61, 32, 97], .str [102, 40, 101, 41, 32, 61, 32, 40, 49, 32, 43, 32, 50], .str [102, 40, 101, 41, 32, 61, 32, 49, 32, 43, 32, 50], .str [102, 40, 101, 41, 32, 61, 32, 40, 49, 41], .str [102, 40, 101, 41, 32, 61, 32, 40, 49, 32, 47, 32, 50, 41], .str [102, 40, 101, 41, 32, 61, 32, 40, 49, 32, 43, 32, 50, 32, 43, 32, 51, 41], .str [102, 40, 101, 41, 32, 61, 32, 40, 105, 102, 32, 101, 32, 60, 32, 49, 32, 116, 104, 101, 110, 32, 50, 41], .str [102, 40, 101, 41, 32, 61, 32, 105, 102, 32, 101, 32, 60, 32, 49, 32, 116, 104, 101, 110, 32, 50, 32, 101, 108, 115, 101, 32, 51], .str [102, 40, 101, 41, 32, 61, 32, 40, 105, 102, 32, 49, 32, 60, 32, 50, 32, 116, 104, 101, 110, 32, 50, 32, 101, 108, 115, 101, 32, 51, 41], .str [102, 40, 101, 41, 32, 61, 32, 40, 105, 102, 32, 101, 32, 60, 32, 101, 32, 116, 104, 101, 110, 32, 50, 32, 101, 108, 115, 101, 32, 51, 41], .str [102, 40, 101, 41, 32, 61, 32, 40, 105, 102, 32, 101, 32, 60, 32, 49, 48, 48, 49, 32, 116, 104, 101, 110, 32, 50, 32, 101, 108, 115, 101, 32, 51, 41], .str [102, 40, 101, 41, 32, 61, 32, 40, 105, 102, 32, 101, 32, 109, 111, 100, 32, 49, 32, 61, 32, 48, 32, 116, 104, 101, 110, 32, 50, 32, 101, 108, 115, 101, 32, 51, 41], .str [102, 40, 101, 41, 32, 61, 32, 40, 105, 102, 32, 101, 32, 109, 111, 100, 32, 55, 32, 61, 32, 48, 32, 116, 104, 101, 110, 32, 50, 32, 101, 108, 115, 101, 32, 51, 41], .str [102, 40, 101, 41, 32, 61, 32, 40, 105, 102, 32, 101, 32, 109, 111, 100, 32, 51, 32, 61, 32, 51, 32, 116, 104, 101, 110, 32, 50, 32, 101, 108, 115, 101, 32, 51, 41]], .lst [.str [102, 40, 101, 41, 32, 61, 32, 103, 40, 101, 41], .str [102, 40, 101, 41, 32, 61, 32, 102, 40, 41], .str [102, 40, 101, 41, 32, 61, 32, 102, 40, 49, 48, 48, 49, 41], .str [102, 40, 101, 41, 32, 61, 32, 102, 40, 101, 32, 43, 32, 54, 41], .str [102, 40, 101, 41, 32, 61, 32, 102, 40, 101, 32, 43, 32, 48, 41], .str [102, 40, 101, 41, 32, 61, 32, 102, 40, 101, 32, 124, 41]], .lst [.str [], .str [32], .str [102], .str [102, 40, 101, 41], .str [102, 40, 101, 41, 32, 61], .str [102, 40, 101, 41, 32, 61, 32, 49, 59], .str [102, 40, 101, 41, 32, 61, 32, 49, 59, 32, 102, 40, 101, 41, 32, 61, 32, 50], .str [102, 40, 97, 41, 32, 61, 32, 49], .str [102, 40, 101, 124, 41, 32, 61, 32, 49], .str [102, 40, 101, 32, 124, 32, 98, 41, 32, 61, 32, 98], .str [102, 40, 101, 32, 124, 32, 97, 44, 32, 99, 41, 32, 61, 32, 97], .str [102, 40, 101, 32, 124, 32, 97, 44, 32, 97, 41, 32, 61, 32, 97], .str [102, 40, 101, 32, 124, 32, 97, 44, 41, 32, 61, 32, 97], .str [102, 40, 101, 41, 32, 61, 32, 97], .str [102, 40, 101, 41, 32, 61, 32, 40, 49, 32, 43, 32, 50], .str [102, 40, 101, 41, 32, 61, 32, 49, 32, 43, 32, 50], .str [102, 40, 101, 41, 32, 61, 32, 40, 49, 41], .str [102, 40, 101, 41, 32, 61, 32, 40, 49, 32, 47, 32, 50, 41], .str [102, 40, 101, 41, 32, 61, 32, 40, 49, 32, 43, 32, 50, 32, 43, 32, 51, 41], .str [102, 40, 101, 41, 32, 61, 32, 40, 105, 102, 32, 101, 32, 60, 32, 49, 32, 116, 104, 101, 110, 32, 50, 41], .str [102, 40, 101, 41, 32, 61, 32, 105, 102, 32, 101, 32, 60, 32, 49, 32, 116, 104, 101, 110, 32, 50, 32, 101, 108, 115, 101, 32, 51], .str [102, 40, 101, 41, 32, 61, 32, 40, 105, 102, 32, 49, 32, 60, 32, 50, 32, 116, 104, 101, 110, 32, 50, 32, 101, 108, 115, 101, 32, 51, 41], .str [102, 40, 101, 41, 32, 61, 32, 40, 105, 102, 32, 101, 32, 60, 32, 101, 32, 116, 104, 101, 110, 32, 50, 32, 101, 108, 115, 101, 32, 51, 41], .str [102, 40, 101, 41, 32, 61, 32, 40, 105, 102, 32, 101, 32, 60, 32, 49, 48, 48, 49, 32, 116, 104, 101, 110, 32, 50, 32, 101, 108, 115, 101, 32, 51, 41], .str [102, 40, 101, 41, 32, 61, 32, 40, 105, 102, 32, 101, 32, 109, 111, 100, 32, 49, 32, 61, 32, 48, 32, 116, 104, 101, 110, 32, 50, 32, 101, 108, 115, 101, 32, 51, 41], .str [102, 40, 101, 41, 32, 61, 32, 40, 105, 102, 32, 101, 32, 109, 111, 100, 32, 55, 32, 61, 32, 48, 32, 116, 104, 101, 110, 32, 50, 32, 101, 108, 115, 101, 32, 51, 41], .str [102, 40, 101, 41, 32, 61, 32, 40, 105, 102, 32, 101, 32, 109, 111, 100, 32, 51, 32, 61, 32, 51, 32, 116, 104, 101, 110, 32, 50, 32, 101, 108, 115, 101, 32, 51, 41], .str [102, 40, 101, 41, 32, 61, 32, 103, 40, 101, 41], .str [102, 40, 101, 41, 32, 61, 32, 102, 40, 41], .str [102, 40, 101, 41, 32, 61, 32, 102, 40, 49, 48, 48, 49, 41], .str [102, 40, 101, 41, 32, 61, 32, 102, 40, 101, 32, 43, 32, 54, 41], .str [102, 40, 101, 41, 32, 61, 32, 102, 40, 101, 32, 43, 32, 48, 41], .str [102, 40, 101, 41, 32, 61, 32, 102, 40, 101, 32, 124, 41]], .lst [.str [102, 40, 101, 41, 32, 61, 32, 102, 40, 101, 32, 124, 32, 49, 41], .str [102, 40, 101, 32, 124, 32, 97, 41, 32, 61, 32, 102, 40, 101, 41], .str [102, 40, 101, 32, 124, 32, 97, 41, 32, 61, 32, 102, 40, 101, 32, 124, 32, 97, 44, 32, 97, 41], .str [102, 40, 101, 32, 124, 32, 97, 41, 32, 61, 32, 102, 40, 97, 32, 124, 32, 97, 41], .str [102, 40, 101, 41, 32, 61, 32, 48, 49]], .lst [.str [], .str [32], .str [102], .str [102, 40, 101, 41], .str [102, 40, 101, 41, 32, 61], .str [102, 40, 101, 41, 32, 61, 32, 49, 59], .str [102, 40, 101, 41, 32, 61, 32, 49, 59, 32, 102, 40, 101, 41, 32, 61, 32, 50], .str [102, 40, 97, 41, 32, 61, 32, 49], .str [102, 40, 101, 124, 41, 32, 61, 32, 49], .str [102, 40, 101, 32, 124, 32, 98, 41, 32, 61, 32, 98], .str [102, 40, 101, 32, 124, 32, 97, 44, 32, 99, 41, 32, 61, 32, 97], .str [102, 40, 101, 32, 124, 32, 97, 44, 32, 97, 41, 32, 61, 32, 97], .str [102, 40, 101, 32, 124, 32, 97, 44, 41, 32, 61, 32, 97], .str [102, 40, 101, 41, 32, 61, 32, 97], .str [102, 40, 101, 41, 32, 61, 32, 40, 49, 32, 43, 32, 50], .str [102, 40, 101, 41, 32, 61, 32, 49, 32, 43, 32, 50], .str [102, 40, 101, 41, 32, 61, 32, 40, 49, 41], .str [102, 40, 101, 41, 32, 61, 32, 40, 49, 32, 47, 32, 50, 41], .str [102, 40, 101, 41, 32, 61, 32, 40, 49, 32, 43, 32, 50, 32, 43, 32, 51, 41], .str [102, 40, 101, 41, 32, 61, 32, 40, 105, 102, 32, 101, 32, 60, 32, 49, 32, 116, 104, 101, 110, 32, 50, 41], .str [102, 40, 101, 41, 32, 61, 32, 105, 102, 32, 101, 32, 60, 32, 49, 32, 116, 104, 101, 110, 32, 50, 32, 101, 108, 115, 101, 32, 51], .str [102, 40, 101, 41, 32, 61, 32, 40, 105, 102, 32, 49, 32, 60, 32, 50, 32, 116, 104, 101, 110, 32, 50, 32, 101, 108, 115, 101, 32, 51, 41], .str [102, 40, 101, 41, 32, 61, 32, 40, 105, 102, 32, 101, 32, 60, 32, 101, 32, 116, 104, 101, 110, 32, 50, 32, 101, 108, 115, 101, 32, 51, 41], .str [102, 40, 101, 41, 32, 61, 32, 40, 105, 102, 32, 101, 32, 60, 32, 49, 48, 48, 49, 32, 116, 104, 101, 110, 32, 50, 32, 101, 108, 115, 101, 32, 51, 41], .str [102, 40, 101, 41, 32, 61, 32, 40, 105, 102, 32, 101, 32, 109, 111, 100, 32, 49, 32, 61, 32, 48, 32, 116, 104, 101, 110, 32, 50, 32, 101, 108, 115, 101, 32, 51, 41], .str [102, 40, 101, 41, 32, 61, 32, 40, 105, 102, 32, 101, 32, 109, 111, 100, 32, 55, 32, 61, 32, 48, 32, 116, 104, 101, 110, 32, 50, 32, 101, 108, 115, 101, 32, 51, 41], .str [102, 40, 101, 41, 32, 61, 32, 40, 105, 102, 32, 101, 32, 109, 111, 100, 32, 51, 32, 61, 32, 51, 32, 116, 104, 101, 110, 32, 50, 32, 101, 108, 115, 101, 32, 51, 41], .str [102, 40, 101, 41, 32, 61, 32, 103, 40, 101, 41], .str [102, 40, 101, 41, 32, 61, 32, 102, 40, 41], .str [102, 40, 101, 41, 32, 61, 32, 102, 40, 49, 48, 48, 49, 41], .str [102, 40, 101, 41, 32, 61, 32, 102, 40, 101, 32, 43, 32, 54, 41], .str [102, 40, 101, 41, 32, 61, 32, 102, 40, 101, 32, 43, 32, 48, 41], .str [102, 40, 101, 41, 32, 61, 32, 102, 40, 101, 32, 124, 41], .str [102, 40, 101, 41, 32, 61, 32, 102, 40, 101, 32, 124, 32, 49, 41], .str [102, 40, 101, 32, 124, 32, 97, 41, 32, 61, 32, 102, 40, 101, 41], .str [102, 40, 101, 32, 124, 32, 97, 41, 32, 61, 32, 102, 40, 101, 32, 124, 32, 97, 44, 32, 97, 41], .str [102, 40, 101, 32, 124, 32, 97, 41, 32, 61, 32, 102, 40, 97, 32, 124, 32, 97, 41], .str [102, 40, 101, 41, 32, 61, 32, 48, 49]], .lst [.str [102, 40, 101, 41, 32, 61, 32, 49, 48, 48, 48, 48, 48, 49], .str [102, 40, 101, 41, 32, 61, 32, 49, 120], .str [102, 40, 101, 41, 32, 61, 32, 120, 49]], .lst [.str [], .str [32], .str [102], .str [102, 40, 101, 41], .str [102, 40, 101, 41, 32, 61], .str [102, 40, 101, 41, 32, 61, 32, 49, 59], .str [102, 40, 101, 41, 32, 61, 32, 49, 59, 32, 102, 40, 101, 41, 32, 61, 32, 50], .str [102, 40, 97, 41, 32, 61, 32, 49], .str [102, 40, 101, 124, 41, 32, 61, 32, 49], .str [102, 40, 101, 32, 124, 32, 98, 41, 32, 61, 32, 98], .str [102, 40, 101, 32, 124, 32, 97, 44, 32, 99, 41, 32, 61, 32, 97], .str [102, 40, 101, 32, 124, 32, 97, 44, 32, 97, 41, 32, 61, 32, 97], .str [102, 40, 101, 32, 124, 32, 97, 44, 41, 32, 61, 32, 97], .str [102, 40, 101, 41, 32, 61, 32, 97], .str [102, 40, 101, 41, 32, 61, 32, 40, 49, 32, 43, 32, 50], .str [102, 40, 101, 41, 32, 61, 32, 49, 32, 43, 32, 50], .str [102, 40, 101, 41, 32, 61, 32, 40, 49, 41], .str [102, 40, 101, 41, 32, 61, 32, 40, 49, 32, 47, 32, 50, 41], .str [102, 40, 101, 41, 32, 61, 32, 40, 49, 32, 43, 32, 50, 32, 43, 32, 51, 41], .str [102, 40, 101, 41, 32, 61, 32, 40, 105, 102, 32, 101, 32, 60, 32, 49, 32, 116, 104, 101, 110, 32, 50, 41], .str [102, 40, 101, 41, 32, 61, 32, 105, 102, 32, 101, 32, 60, 32, 49, 32, 116, 104, 101, 110, 32, 50, 32, 101, 108, 115, 101, 32, 51], .str [102, 40, 101, 41, 32, 61, 32, 40, 105, 102, 32, 49, 32, 60, 32, 50, 32, 116, 104, 101, 110, 32, 50, 32, 101, 108, 115, 101, 32, 51, 41], .str [102, 40, 101, 41, 32, 61, 32, 40, 105, 102, 32, 101, 32, 60, 32, 101, 32, 116, 104, 101, 110, 32, 50, 32, 101, 108, 115, 101, 32, 51, 41], .str [102, 40, 101, 41, 32, 61, 32, 40, 105, 102, 32, 101, 32, 60, 32, 49, 48, 48, 49, 32, 116, 104, 101, 110, 32, 50, 32, 101, 108, 115, 101, 32, 51, 41], .str [102, 40, 101, 41, 32, 61, 32, 40, 105, 102, 32, 101, 32, 109, 111, 100, 32, 49, 32, 61, 32, 48, 32, 116, 104, 101, 110, 32, 50, 32, 101, 108, 115, 101, 32, 51, 41], .str [102, 40, 101, 41, 32, 61, 32, 40, 105, 102, 32, 101, 32, 109, 111, 100, 32, 55, 32, 61, 32, 48, 32, 116, 104, 101, 110, 32, 50, 32, 101, 108, 115, 101, 32, 51, 41], .str [102, 40, 101, 41, 32, 61, 32, 40, 105, 102, 32, 101, 32, 109, 111, 100, 32, 51, 32, 61, 32, 51, 32, 116, 104, 101, 110, 32, 50, 32, 101, 108, 115, 101, 32, 51, 41], .str [102, 40, 101, 41, 32, 61, 32, 103, 40, 101, 41], .str [102, 40, 101, 41, 32, 61, 32, 102, 40, 41], .str [102, 40, 101, 41, 32, 61, 32, 102, 40, 49, 48, 48, 49, 41], .str [102, 40, 101, 41, 32, 61, 32, 102, 40, 101, 32, 43, 32, 54, 41], .str [102, 40, 101, 41, 32, 61, 32, 102, 40, 101, 32, 43, 32, 48, 41], .str [102, 40, 101, 41, 32, 61, 32, 102, 40, 101, 32, 124, 41], .str [102, 40, 101, 41, 32, 61, 32, 102, 40, 101, 32, 124, 32, 49, 41], .str [102, 40, 101, 32, 124, 32, 97, 41, 32, 61, 32, 102, 40, 101, 41], .str [102, 40, 101, 32, 124, 32, 97, 41, 32, 61, 32, 102, 40, 101, 32, 124, 32, 97, 44, 32, 97, 41], .str [102, 40, 101, 32, 124, 32, 97, 41, 32, 61, 32, 102, 40, 97, 32, 124, 32, 97, 41], .str [102, 40, 101, 41, 32, 61, 32, 48, 49], .str [102, 40, 101, 41, 32, 61, 32, 49, 48, 48, 48, 48, 48, 49], .str [102, 40, 101, 41, 32, 61, 32, 49, 120], .str [102, 40, 101, 41, 32, 61, 32, 120, 49]], .lst [.str [105, 102, 40, 101, 41, 32, 61, 32, 49], .str [109, 111, 100, 40, 101, 41, 32, 61, 32, 49], .str [97, 40, 101, 41, 32, 61, 32, 49], .str [101, 40, 101, 41, 32, 61, 32, 49], .str [116, 111, 111, 108, 111, 110, 103, 110, 97, 109, 101, 40, 101, 41, 32, 61, 32, 49], .str [70, 40, 101, 41, 32, 61, 32, 49], .str [102, 95, 49, 40, 101, 41, 32, 61, 32, 49]], .lst [.str [], .str [32], .str [102], .str [102, 40, 101, 41], .str [102, 40, 101, 41, 32, 61], .str [102, 40, 101, 41, 32, 61, 32, 49, 59], .str [102, 40, 101, 41, 32, 61, 32, 49, 59, 32, 102, 40, 101, 41, 32, 61, 32, 50], .str [102, 40, 97, 41, 32, 61, 32, 49], .str [102, 40, 101, 124, 41, 32, 61, 32, 49], .str [102, 40, 101, 32, 124, 32, 98, 41, 32, 61, 32, 98], .str [102, 40, 101, 32, 124, 32, 97, 44, 32, 99, 41, 32, 61, 32, 97], .str [102, 40, 101, 32, 124, 32, 97, 44, 32, 97, 41, 32, 61, 32, 97], .str [102, 40, 101, 32, 124, 32, 97, 44, 41, 32, 61, 32, 97], .str [102, 40, 101, 41, 32, 61, 32, 97], .str [102, 40, 101, 41, 32, 61, 32, 40, 49, 32, 43, 32, 50], .str [102, 40, 101, 41, 32, 61, 32, 49, 32, 43, 32, 50], .str [102, 40, 101, 41, 32, 61, 32, 40, 49, 41], .str [102, 40, 101, 41, 32, 61, 32, 40, 49, 32, 47, 32, 50, 41], .str [102, 40, 101, 41, 32, 61, 32, 40, 49, 32, 43, 32, 50, 32, 43, 32, 51, 41], .str [102, 40, 101, 41, 32, 61, 32, 40, 105, 102, 32, 101, 32, 60, 32, 49, 32, 116, 104, 101, 110, 32, 50, 41], .str [102, 40, 101, 41, 32, 61, 32, 105, 102, 32, 101, 32, 60, 32, 49, 32, 116, 104, 101, 110, 32, 50, 32, 101, 108, 115, 101, 32, 51], .str [102, 40, 101, 41, 32, 61, 32, 40, 105, 102, 32, 49, 32, 60, 32, 50, 32, 116, 104, 101, 110, 32, 50, 32, 101, 108, 115, 101, 32, 51, 41], .str [102, 40, 101, 41, 32, 61, 32, 40, 105, 102, 32, 101, 32, 60, 32, 101, 32, 116, 104, 101, 110, 32, 50, 32, 101, 108, 115, 101, 32, 51, 41], .str [102, 40, 101, 41, 32, 61, 32, 40, 105, 102, 32, 101, 32, 60, 32, 49, 48, 48, 49, 32, 116, 104, 101, 110, 32, 50, 32, 101, 108, 115, 101, 32, 51, 41], .str [102, 40, 101, 41, 32, 61, 32, 40, 105, 102, 32, 101, 32, 109, 111, 100, 32, 49, 32, 61, 32, 48, 32, 116, 104, 101, 110, 32, 50, 32, 101, 108, 115, 101, 32, 51, 41], .str [102, 40, 101, 41, 32, 61, 32, 40, 105, 102, 32, 101, 32, 109, 111, 100, 32, 55, 32, 61, 32, 48, 32, 116, 104, 101, 110, 32, 50, 32, 101, 108, 115, 101, 32, 51, 41], .str [102, 40, 101, 41, 32, 61, 32, 40, 105, 102, 32, 101, 32, 109, 111, 100, 32, 51, 32, 61, 32, 51, 32, 116, 104, 101, 110, 32, 50, 32, 101, 108, 115, 101, 32, 51, 41], .str [102, 40, 101, 41, 32, 61, 32, 103, 40, 101, 41], .str [102, 40, 101, 41, 32, 61, 32, 102, 40, 41], .str [102, 40, 101, 41, 32, 61, 32, 102, 40, 49, 48, 48, 49, 41], .str [102, 40, 101, 41, 32, 61, 32, 102, 40, 101, 32, 43, 32, 54, 41], .str [102, 40, 101, 41, 32, 61, 32, 102, 40, 101, 32, 43, 32, 48, 41], .str [102, 40, 101, 41, 32, 61, 32, 102, 40, 101, 32, 124, 41], .str [102, 40, 101, 41, 32, 61, 32, 102, 40, 101, 32, 124, 32, 49, 41], .str [102, 40, 101, 32, 124, 32, 97, 41, 32, 61, 32, 102, 40, 101, 41], .str [102, 40, 101, 32, 124, 32, 97, 41, 32, 61, 32, 102, 40, 101, 32, 124, 32, 97, 44, 32, 97, 41], .str [102, 40, 101, 32, 124, 32, 97, 41, 32, 61, 32, 102, 40, 97, 32, 124, 32, 97, 41], .str [102, 40, 101, 41, 32, 61, 32, 48, 49], .str [102, 40, 101, 41, 32, 61, 32, 49, 48, 48, 48, 48, 48, 49], .str [102, 40, 101, 41, 32, 61, 32, 49, 120], .str [102, 40, 101, 41, 32, 61, 32, 120, 49], .str [105, 102, 40, 101, 41, 32, 61, 32, 49], .str [109, 111, 100, 40, 101, 41, 32, 61, 32, 49], .str [97, 40, 101, 41, 32, 61, 32, 49], .str [101, 40, 101, 41, 32, 61, 32, 49], .str [116, 111, 111, 108, 111, 110, 103, 110, 97, 109, 101, 40, 101, 41, 32, 61, 32, 49], .str [70, 40, 101, 41, 32, 61, 32, 49], .str [102, 95, 49, 40, 101, 41, 32, 61, 32, 49]], .lst [.str [102, 40, 101, 41, 32, 61, 32, 40, 97, 32, 43, 32, 49, 41], .str [102, 40, 101, 41, 32, 61, 61, 32, 49], .str [102, 40, 101, 41, 32, 61, 32, 49, 32, 102], .str [102, 40, 101, 32, 124, 32, 97, 44, 32, 98, 44, 32, 99, 44, 32, 100, 44, 32, 101, 41, 32, 61, 32, 49], .str [102, 40, 101, 32, 124, 32, 97, 44, 32, 98, 44, 32, 99, 44, 32, 100, 44, 32, 97, 41, 32, 61, 32, 49], .str [102, 40, 101, 41, 32, 61, 32, 45, 49]], .lst [.str [], .str [32], .str [102], .str [102, 40, 101, 41], .str [102, 40, 101, 41, 32, 61], .str [102, 40, 101, 41, 32, 61, 32, 49, 59], .str [102, 40, 101, 41, 32, 61, 32, 49, 59, 32, 102, 40, 101, 41, 32, 61, 32, 50], .str [102, 40, 97, 41, 32, 61, 32, 49], .str [102, 40, 101, 124, 41, 32, 61, 32, 49], .str [102, 40, 101, 32, 124, 32, 98, 41, 32, 61, 32, 98], .str [102, 40, 101, 32, 124, 32, 97, 44, 32, 99, 41, 32, 61, 32, 97], .str [102, 40, 101, 32, 124, 32, 97, 44, 32, 97, 41, 32, 61, 32, 97], .str [102, 40, 101, 32, 124, 32, 97, 44, 41, 32, 61, 32, 97], .str [102, 40, 101, 41, 32, 61, 32, 97], .str [102, 40, 101, 41, 32, 61, 32, 40, 49, 32, 43, 32, 50], .str [102, 40, 101, 41, 32, 61, 32, 49, 32, 43, 32, 50], .str [102, 40, 101, 41, 32, 61, 32, 40, 49, 41], .str [102, 40, 101, 41, 32, 61, 32, 40, 49, 32, 47, 32, 50, 41], .str [102, 40, 101, 41, 32, 61, 32, 40, 49, 32, 43, 32, 50, 32, 43, 32, 51, 41], .str [102, 40, 101, 41, 32, 61, 32, 40, 105, 102, 32, 101, 32, 60, 32, 49, 32, 116, 104, 101, 110, 32, 50, 41], .str [102, 40, 101, 41, 32, 61, 32, 105, 102, 32, 101, 32, 60, 32, 49, 32, 116, 104, 101, 110, 32, 50, 32, 101, 108, 115, 101, 32, 51], .str [102, 40, 101, 41, 32, 61, 32, 40, 105, 102, 32, 49, 32, 60, 32, 50, 32, 116, 104, 101, 110, 32, 50, 32, 101, 108, 115, 101, 32, 51, 41], .str [102, 40, 101, 41, 32, 61, 32, 40, 105, 102, 32, 101, 32, 60, 32, 101, 32, 116, 104, 101, 110, 32, 50, 32, 101, 108, 115, 101, 32, 51, 41], .str [102, 40, 101, 41, 32, 61, 32, 40, 105, 102, 32, 101, 32, 60, 32, 49, 48, 48, 49, 32, 116, 104, 101, 110, 32, 50, 32, 101, 108, 115, 101, 32, 51, 41], .str [102, 40, 101, 41, 32, 61, 32, 40, 105, 102, 32, 101, 32, 109, 111, 100, 32, 49, 32, 61, 32, 48, 32, 116, 104, 101, 110, 32, 50, 32, 101, 108, 115, 101, 32, 51, 41], .str [102, 40, 101, 41, 32, 61, 32, 40, 105, 102, 32, 101, 32, 109, 111, 100, 32, 55, 32, 61, 32, 48, 32, 116, 104, 101, 110, 32, 50, 32, 101, 108, 115, 101, 32, 51, 41], .str [102, 40, 101, 41, 32, 61, 32, 40, 105, 102, 32, 101, 32, 109, 111, 100, 32, 51, 32, 61, 32, 51, 32, 116, 104, 101, 110, 32, 50, 32, 101, 108, 115, 101, 32, 51, 41], .str [102, 40, 101, 41, 32, 61, 32, 103, 40, 101, 41], .str [102, 40, 101, 41, 32, 61, 32, 102, 40, 41], .str [102, 40, 101, 41, 32, 61, 32, 102, 40, 49, 48, 48, 49, 41], .str [102, 40, 101, 41, 32, 61, 32, 102, 40, 101, 32, 43, 32, 54, 41], .str [102, 40, 101, 41, 32, 61, 32, 102, 40, 101, 32, 43, 32, 48, 41], .str [102, 40, 101, 41, 32, 61, 32, 102, 40, 101, 32, 124, 41], .str [102, 40, 101, 41, 32, 61, 32, 102, 40, 101, 32, 124, 32, 49, 41], .str [102, 40, 101, 32, 124, 32, 97, 41, 32, 61, 32, 102, 40, 101, 41], .str [102, 40, 101, 32, 124, 32, 97, 41, 32, 61, 32, 102, 40, 101, 32, 124, 32, 97, 44, 32, 97, 41], .str [102, 40, 101, 32, 124, 32, 97, 41, 32, 61, 32, 102, 40, 97, 32, 124, 32, 97, 41], .str [102, 40, 101, 41, 32, 61, 32, 48, 49], .str [102, 40, 101, 41, 32, 61, 32, 49, 48, 48, 48, 48, 48, 49], .str [102, 40, 101, 41, 32, 61, 32, 49, 120], .str [102, 40, 101, 41, 32, 61, 32, 120, 49], .str [105, 102, 40, 101, 41, 32, 61, 32, 49], .str [109, 111, 100, 40, 101, 41, 32, 61, 32, 49], .str [97, 40, 101, 41, 32, 61, 32, 49], .str [101, 40, 101, 41, 32, 61, 32, 49], .str [116, 111, 111, 108, 111, 110, 103, 110, 97, 109, 101, 40, 101, 41, 32, 61, 32, 49], .str [70, 40, 101, 41, 32, 61, 32, 49], .str [102, 95, 49, 40, 101, 41, 32, 61, 32, 49], .str [102, 40, 101, 41, 32, 61, 32, 40, 97, 32, 43, 32, 49, 41], .str [102, 40, 101, 41, 32, 61, 61, 32, 49], .str [102, 40, 101, 41, 32, 61, 32, 49, 32, 102], .str [102, 40, 101, 32, 124, 32, 97, 44, 32, 98, 44, 32, 99, 44, 32, 100, 44, 32, 101, 41, 32, 61, 32, 49], .str [102, 40, 101, 32, 124, 32, 97, 44, 32, 98, 44, 32, 99, 44, 32, 100, 44, 32, 97, 41, 32, 61, 32, 49], .str [102, 40, 101, 41, 32, 61, 32, 45, 49]], .lst [.str [102, 40, 101, 41, 32, 61, 32, 40, 105, 102, 97, 32, 60, 32, 49, 32, 116, 104, 101, 110, 32, 49, 32, 101, 108, 115, 101, 32, 50, 41]], .lst [.str [], .str [32], .str [102], .str [102, 40, 101, 41], .str [102, 40, 101, 41, 32, 61], .str [102, 40, 101, 41, 32, 61, 32, 49, 59], .str [102, 40, 101, 41, 32, 61, 32, 49, 59, 32, 102, 40, 101, 41, 32, 61, 32, 50], .str [102, 40, 97, 41, 32, 61, 32, 49], .str [102, 40, 101, 124, 41, 32, 61, 32, 49], .str [102, 40, 101, 32, 124, 32, 98, 41, 32, 61, 32, 98], .str [102, 40, 101, 32, 124, 32, 97, 44, 32, 99, 41, 32, 61, 32, 97], .str [102, 40, 101, 32, 124, 32, 97, 44, 32, 97, 41, 32, 61, 32, 97], .str [102, 40, 101, 32, 124, 32, 97, 44, 41, 32, 61, 32, 97], .str [102, 40, 101, 41, 32, 61, 32, 97], .str [102, 40, 101, 41, 32, 61, 32, 40, 49, 32, 43, 32, 50], .str [102, 40, 101, 41, 32, 61, 32, 49, 32, 43, 32, 50], .str [102, 40, 101, 41, 32, 61, 32, 40, 49, 41], .str [102, 40, 101, 41, 32, 61, 32, 40, 49, 32, 47, 32, 50, 41], .str [102, 40, 101, 41, 32, 61, 32, 40, 49, 32, 43, 32, 50, 32, 43, 32, 51, 41], .str [102, 40, 101, 41, 32, 61, 32, 40, 105, 102, 32, 101, 32, 60, 32, 49, 32, 116, 104, 101, 110, 32, 50, 41], .str [102, 40, 101, 41, 32, 61, 32, 105, 102, 32, 101, 32, 60, 32, 49, 32, 116, 104, 101, 110, 32, 50, 32, 101, 108, 115, 101, 32, 51], .str [102, 40, 101, 41, 32, 61, 32, 40, 105, 102, 32, 49, 32, 60, 32, 50, 32, 116, 104, 101, 110, 32, 50, 32, 101, 108, 115, 101, 32, 51, 41], .str [102, 40, 101, 41, 32, 61, 32, 40, 105, 102, 32, 101, 32, 60, 32, 101, 32, 116, 104, 101, 110, 32, 50, 32, 101, 108, 115, 101, 32, 51, 41], .str [102, 40, 101, 41, 32, 61, 32, 40, 105, 102, 32, 101, 32, 60, 32, 49, 48, 48, 49, 32, 116, 104, 101, 110, 32, 50, 32, 101, 108, 115, 101, 32, 51, 41], .str [102, 40, 101, 41, 32, 61, 32, 40, 105, 102, 32, 101, 32, 109, 111, 100, 32, 49, 32, 61, 32, 48, 32, 116, 104, 101, 110, 32, 50, 32, 101, 108, 115, 101, 32, 51, 41], .str [102, 40, 101, 41, 32, 61, 32, 40, 105, 102, 32, 101, 32, 109, 111, 100, 32, 55, 32, 61, 32, 48, 32, 116, 104, 101, 110, 32, 50, 32, 101, 108, 115, 101, 32, 51, 41], .str [102, 40, 101, 41, 32, 61, 32, 40, 105, 102, 32, 101, 32, 109, 111, 100, 32, 51, 32, 61, 32, 51, 32, 116, 104, 101, 110, 32, 50, 32, 101, 108, 115, 101, 32, 51, 41], .str [102, 40, 101, 41, 32, 61, 32, 103, 40, 101, 41], .str [102, 40, 101, 41, 32, 61, 32, 102, 40, 41], .str [102, 40, 101, 41, 32, 61, 32, 102, 40, 49, 48, 48, 49, 41], .str [102, 40, 101, 41, 32, 61, 32, 102, 40, 101, 32, 43, 32, 54, 41], .str [102, 40, 101, 41, 32, 61, 32, 102, 40, 101, 32, 43, 32, 48, 41], .str [102, 40, 101, 41, 32, 61, 32, 102, 40, 101, 32, 124, 41], .str [102, 40, 101, 41, 32, 61, 32, 102, 40, 101, 32, 124, 32, 49, 41], .str [102, 40, 101, 32, 124, 32, 97, 41, 32, 61, 32, 102, 40, 101, 41], .str [102, 40, 101, 32, 124, 32, 97, 41, 32, 61, 32, 102, 40, 101, 32, 124, 32, 97, 44, 32, 97, 41], .str [102, 40, 101, 32, 124, 32, 97, 41, 32, 61, 32, 102, 40, 97, 32, 124, 32, 97, 41], .str [102, 40, 101, 41, 32, 61, 32, 48, 49], .str [102, 40, 101, 41, 32, 61, 32, 49, 48, 48, 48, 48, 48, 49], .str [102, 40, 101, 41, 32, 61, 32, 49, 120], .str [102, 40, 101, 41, 32, 61, 32, 120, 49], .str [105, 102, 40, 101, 41, 32, 61, 32, 49], .str [109, 111, 100, 40, 101, 41, 32, 61, 32, 49], .str [97, 40, 101, 41, 32, 61, 32, 49], .str [101, 40, 101, 41, 32, 61, 32, 49], .str [116, 111, 111, 108, 111, 110, 103, 110, 97, 109, 101, 40, 101, 41, 32, 61, 32, 49], .str [70, 40, 101, 41, 32, 61, 32, 49], .str [102, 95, 49, 40, 101, 41, 32, 61, 32, 49], .str [102, 40, 101, 41, 32, 61, 32, 40, 97, 32, 43, 32, 49, 41], .str [102, 40, 101, 41, 32, 61, 61, 32, 49], .str [102, 40, 101, 41, 32, 61, 32, 49, 32, 102], .str [102, 40, 101, 32, 124, 32, 97, 44, 32, 98, 44, 32, 99, 44, 32, 100, 44, 32, 101, 41, 32, 61, 32, 49], .str [102, 40, 101, 32, 124, 32, 97, 44, 32, 98, 44, 32, 99, 44, 32, 100, 44, 32, 97, 41, 32, 61, 32, 49], .str [102, 40, 101, 41, 32, 61, 32, 45, 49], .str [102, 40, 101, 41, 32, 61, 32, 40, 105, 102, 97, 32, 60, 32, 49, 32, 116, 104, 101, 110, 32, 49, 32, 101, 108, 115, 101, 32, 50, 41]], .lst [.str [102, 40, 101, 41, 61, 49], .str [102, 40, 101, 124, 97, 41, 61, 97], .str [102, 40, 101, 32, 124, 32, 97, 44, 32, 98, 44, 32, 99, 44, 32, 100, 41, 32, 61, 32, 100], .str [102, 40, 101, 41, 32, 61, 32, 40, 49, 32, 43, 32, 50, 41], .str [102, 40, 101, 41, 32, 61, 32, 40, 105, 102, 32, 101, 32, 60, 32, 49, 48, 48, 48, 32, 116, 104, 101, 110, 32, 50, 32, 101, 108, 115, 101, 32, 51, 41]], .lst [.str [102, 40, 101, 41, 32, 61, 32, 40, 105, 102, 32, 101, 32, 109, 111, 100, 32, 54, 32, 61, 32, 53, 32, 116, 104, 101, 110, 32, 50, 32, 101, 108, 115, 101, 32, 51, 41], .str [102, 40, 101, 32, 124, 32, 97, 41, 32, 61, 32, 40, 105, 102, 32, 101, 32, 60, 32, 97, 32, 116, 104, 101, 110, 32, 50, 32, 101, 108, 115, 101, 32, 51, 41]], .lst [.str [102, 40, 101, 41, 61, 49], .str [102, 40, 101, 124, 97, 41, 61, 97], .str [102, 40, 101, 32, 124, 32, 97, 44, 32, 98, 44, 32, 99, 44, 32, 100, 41, 32, 61, 32, 100], .str [102, 40, 101, 41, 32, 61, 32, 40, 49, 32, 43, 32, 50, 41], .str [102, 40, 101, 41, 32, 61, 32, 40, 105, 102, 32, 101, 32, 60, 32, 49, 48, 48, 48, 32, 116, 104, 101, 110, 32, 50, 32, 101, 108, 115, 101, 32, 51, 41], .str [102, 40, 101, 41, 32, 61, 32, 40, 105, 102, 32, 101, 32, 109, 111, 100, 32, 54, 32, 61, 32, 53, 32, 116, 104, 101, 110, 32, 50, 32, 101, 108, 115, 101, 32, 51, 41], .str [102, 40, 101, 32, 124, 32, 97, 41, 32, 61, 32, 40, 105, 102, 32, 101, 32, 60, 32, 97, 32, 116, 104, 101, 110, 32, 50, 32, 101, 108, 115, 101, 32, 51, 41]], .lst [.str [102, 40, 101, 32, 124, 32, 97, 41, 32, 61, 32, 40, 105, 102, 32, 97, 32, 60, 32, 101, 32, 116, 104, 101, 110, 32, 50, 32, 101, 108, 115, 101, 32, 51, 41], .str [102, 40, 101, 41, 32, 61, 32, 102, 40, 101, 41], .str [102, 40, 101, 41, 32, 61, 32, 102, 40, 48, 41], .str [102, 40, 101, 41, 32, 61, 32, 102, 40, 101, 32, 43, 32, 53, 41], .str [102, 40, 101, 41, 32, 61, 32, 102, 40, 101, 32, 45, 32, 53, 41]], .lst [.str [102, 40, 101, 41, 61, 49], .str [102, 40, 101, 124, 97, 41, 61, 97], .str [102, 40, 101, 32, 124, 32, 97, 44, 32, 98, 44, 32, 99, 44, 32, 100, 41, 32, 61, 32, 100], .str [102, 40, 101, 41, 32, 61, 32, 40, 49, 32, 43, 32, 50, 41], .str [102, 40, 101, 41, 32, 61, 32, 40, 105, 102, 32, 101, 32, 60, 32, 49, 48, 48, 48, 32, 116, 104, 101, 110, 32, 50, 32, 101, 108, 115, 101, 32, 51, 41], .str [102, 40, 101, 41, 32, 61, 32, 40, 105, 102, 32, 101, 32, 109, 111, 100, 32, 54, 32, 61, 32, 53, 32, 116, 104, 101, 110, 32, 50, 32, 101, 108, 115, 101, 32, 51, 41], .str [102, 40, 101, 32, 124, 32, 97, 41, 32, 61, 32, 40, 105, 102, 32, 101, 32, 60, 32, 97, 32, 116, 104, 101, 110, 32, 50, 32, 101, 108, 115, 101, 32, 51, 41], .str [102, 40, 101, 32, 124, 32, 97, 41, 32, 61, 32, 40, 105, 102, 32, 97, 32, 60, 32, 101, 32, 116, 104, 101, 110, 32, 50, 32, 101, 108, 115, 101, 32, 51, 41], .str [102, 40, 101, 41, 32, 61, 32, 102, 40, 101, 41], .str [102, 40, 101, 41, 32, 61, 32, 102, 40, 48, 41], .str [102, 40, 101, 41, 32, 61, 32, 102, 40, 101, 32, 43, 32, 53, 41], .str [102, 40, 101, 41, 32, 61, 32, 102, 40, 101, 32, 45, 32, 53, 41]], .lst [.str [120, 40, 101, 41, 32, 61, 32, 49, 48, 48, 48, 48, 48, 48, 59, 32, 121, 40, 101, 41, 32, 61, 32, 120, 40, 49, 48, 48, 48, 41]], .lst [.str [102, 40, 101, 41, 61, 49], .str [102, 40, 101, 124, 97, 41, 61, 97], .str [102, 40, 101, 32, 124, 32, 97, 44, 32, 98, 44, 32, 99, 44, 32, 100, 41, 32, 61, 32, 100], .str [102, 40, 101, 41, 32, 61, 32, 40, 49, 32, 43, 32, 50, 41], .str [102, 40, 101, 41, 32, 61, 32, 40, 105, 102, 32, 101, 32, 60, 32, 49, 48, 48, 48, 32, 116, 104, 101, 110, 32, 50, 32, 101, 108, 115, 101, 32, 51, 41], .str [102, 40, 101, 41, 32, 61, 32, 40, 105, 102, 32, 101, 32, 109, 111, 100, 32, 54, 32, 61, 32, 53, 32, 116, 104, 101, 110, 32, 50, 32, 101, 108, 115, 101, 32, 51, 41], .str [102, 40, 101, 32, 124, 32, 97, 41, 32, 61, 32, 40, 105, 102, 32, 101, 32, 60, 32, 97, 32, 116, 104, 101, 110, 32, 50, 32, 101, 108, 115, 101, 32, 51, 41], .str [102, 40, 101, 32, 124, 32, 97, 41, 32, 61, 32, 40, 105, 102, 32, 97, 32, 60, 32, 101, 32, 116, 104, 101, 110, 32, 50, 32, 101, 108, 115, 101, 32, 51, 41], .str [102, 40, 101, 41, 32, 61, 32, 102, 40, 101, 41], .str [102, 40, 101, 41, 32, 61, 32, 102, 40, 48, 41], .str [102, 40, 101, 41, 32, 61, 32, 102, 40, 101, 32, 43, 32, 53, 41], .str [102, 40, 101, 41, 32, 61, 32, 102, 40, 101, 32, 45, 32, 53, 41], .str [120, 40, 101, 41, 32, 61, 32, 49, 48, 48, 48, 48, 48, 48, 59, 32, 121, 40, 101, 41, 32, 61, 32, 120, 40, 49, 48, 48, 48, 41]]]
def E_2 (sp : List Nat) : En := [none, none, some (.str sp), some (.ob 24), some (.str [102, 40, 101, 41, 32, 61, 32, 40, 105, 102, 97, 32, 60, 32, 49, 32, 116, 104, 101, 110, 32, 49, 32, 101, 108, 115, 101, 32, 50, 41]), some (.ob 31), none, none, none]
def T_3 : List D := [.str [102, 40, 101, 41, 61, 49], .str [102, 40, 101, 124, 97, 41, 61, 97], .str [102, 40, 101, 32, 124, 32, 97, 44, 32, 98, 44, 32, 99, 44, 32, 100, 41, 32, 61, 32, 100], .str [102, 40, 101, 41, 32, 61, 32, 40, 49, 32, 43, 32, 50, 41], .str [102, 40, 101, 41, 32, 61, 32, 40, 105, 102, 32, 101, 32, 60, 32, 49, 48, 48, 48, 32, 116, 104, 101, 110, 32, 50, 32, 101, 108, 115, 101, 32, 51, 41], .str [102, 40, 101, 41, 32, 61, 32, 40, 105, 102, 32, 101, 32, 109, 111, 100, 32, 54, 32, 61, 32, 53, 32, 116, 104, 101, 110, 32, 50, 32, 101, 108, 115, 101, 32, 51, 41], .str [102, 40, 101, 32, 124, 32, 97, 41, 32, 61, 32, 40, 105, 102, 32, 101, 32, 60, 32, 97, 32, 116, 104, 101, 110, 32, 50, 32, 101, 108, 115, 101, 32, 51, 41], .str [102, 40, 101, 32, 124, 32, 97, 41, 32, 61, 32, 40, 105, 102, 32, 97, 32, 60, 32, 101, 32, 116, 104, 101, 110, 32, 50, 32, 101, 108, 115, 101, 32, 51, 41], .str [102, 40, 101, 41, 32, 61, 32, 102, 40, 101, 41], .str [102, 40, 101, 41, 32, 61, 32, 102, 40, 48, 41], .str [102, 40, 101, 41, 32, 61, 32, 102, 40, 101, 32, 43, 32, 53, 41], .str [102, 40, 101, 41, 32, 61, 32, 102, 40, 101, 32, 45, 32, 53, 41], .str [120, 40, 101, 41, 32, 61, 32, 49, 48, 48, 48, 48, 48, 48, 59, 32, 121, 40, 101, 41, 32, 61, 32, 120, 40, 49, 48, 48, 48, 41]]
def E_3 (sp : List Nat) : En := envAt nx46 T_3 (E_2 sp) 13
def chk_3 (sp : List Nat) (k : Nat) : Bool := turnB (lb_18 (fsN 60)) nx46 T_3 (E_2 sp) S_2 k
def S_4 : Sto := [.lst [.str [], .str [32], .str [102], .str [102, 40, 101, 41], .str [102, 40, 101, 41, 32, 61], .str [102, 40, 101, 41, 32, 61, 32, 49, 59], .str [102, 40, 101, 41, 32, 61, 32, 49, 59, 32, 102, 40, 101, 41, 32, 61, 32, 50], .str [102, 40, 97, 41, 32, 61, 32, 49], .str [102, 40, 101, 124, 41, 32, 61, 32, 49], .str [102, 40, 101, 32, 124, 32, 98, 41, 32, 61, 32, 98]], .lst [.str [102, 40, 101, 32, 124, 32, 97, 44, 32, 99, 41, 32, 61, 32, 97], .str [102, 40, 101, 32, 124, 32, 97, 44, 32, 97, 41, 32, 61, 32, 97]], .lst [.str [], .str [32], .str [102], .str [102, 40, 101, 41], .str [102, 40, 101, 41, 32, 61], .str [102, 40, 101, 41, 32, 61, 32, 49, 59], .str [102, 40, 101, 41, 32, 61, 32, 49, 59, 32, 102, 40, 101, 41, 32, 61, 32, 50], .str [102, 40, 97, 41, 32, 61, 32, 49], .str [102, 40, 101, 124, 41, 32, 61, 32, 49], .str [102, 40, 101, 32, 124, 32, 98, 41, 32, 61, 32, 98], .str [102, 40, 101, 32, 124, 32, 97, 44, 32, 99, 41, 32, 61, 32, 97], .str [102, 40, 101, 32, 124, 32, 97, 44, 32, 97, 41, 32, 61, 32, 97]], .lst [.str [102, 40, 101, 32, 124, 32, 97, 44, 41, 32, 61, 32, 97], .str [102, 40, 101, 41, 32, 61, 32, 97], .str [102, 40, 101, 41, 32, 61, 32, 40, 49, 32, 43, 32, 50], .str [102, 40, 101, 41, 32, 61, 32, 49, 32, 43, 32, 50], .str [102, 40, 101, 41, 32, 61, 32, 40, 49, 41], .str [102, 40, 101, 41, 32, 61, 32, 40, 49, 32, 47, 32, 50, 41]], .lst [.str [], .str [32], .str [102], .str [102, 40, 101, 41], .str [102, 40, 101, 41, 32, 61], .str [102, 40, 101, 41, 32, 61, 32, 49, 59], .str [102, 40, 101, 41, 32, 61, 32, 49, 59, 32, 102, 40, 101, 41, 32, 61, 32, 50], .str [102, 40, 97, 41, 32, 61, 32, 49], .str [102, 40, 101, 124, 41, 32, 61, 32, 49], .str [102, 40, 101, 32, 124, 32, 98, 41, 32, 61, 32, 98], .str [102, 40, 101, 32, 124, 32, 97, 44, 32, 99, 41, 32, 61, 32, 97], .str [102, 40, 101, 32, 124, 32, 97, 44, 32, 97, 41, 32, 61, 32, 97], .str [102, 40, 101, 32, 124, 32, 97, 44, 41, 32, 61, 32, 97], .str [102, 40, 101, 41, 32, 61, 32, 97], .str [102, 40, 101, 41, 32, 61, 32, 40, 49, 32, 43, 32, 50], .str [102, 40, 101, 41, 32, 61, 32, 49, 32, 43, 32, 50], .str [102, 40, 101, 41, 32, 61, 32, 40, 49, 41], .str [102, 40, 101, 41, 32, 61, 32, 40, 49, 32, 47, 32, 50, 41]], .lst [.str [102, 40, 101, 41, 32, 61, 32, 40, 49, 32, 43, 32, 50, 32, 43, 32, 51, 41], .str [102, 40, 101, 41, 32, 61, 32, 40, 105, 102, 32, 101, 32, 60, 32, 49, 32, 116, 104, 101, 110, 32, 50, 41], .str [102, 40, 101, 41, 32, 61, 32, 105, 102, 32, 101, 32, 60, 32, 49, 32, 116, 104, 101, 110, 32, 50, 32, 101, 108, 115, 101, 32, 51]], .lst [.str [], .str [32], .str [102], .str [102, 40, 101, 41], .str [102, 40, 101, 41, 32, 61], .str [102, 40, 101, 41, 32, 61, 32, 49, 59], .str [102, 40, 101, 41, 32, 61, 32, 49, 59, 32, 102, 40, 101, 41, 32, 61, 32, 50], .str [102, 40, 97, 41, 32, 61, 32, 49], .str [102, 40, 101, 124, 41, 32, 61, 32, 49], .str [102, 40, 101, 32, 124, 32, 98, 41, 32, 61, 32, 98], .str [102, 40, 101, 32, 124, 32, 97, 44, 32, 99, 41, 32, 61, 32, 97], .str [102, 40, 101, 32, 124, 32, 97, 44, 32, 97, 41, 32, 61, 32, 97], .str [102, 40, 101, 32, 124, 32, 97, 44, 41, 32, 61, 32, 97], .str [102, 40, 101, 41, 32, 61, 32, 97], .str [102, 40, 101, 41, 32, 61, 32, 40, 49, 32, 43, 32, 50], .str [102, 40, 101, 41, 32, 61, 32, 49, 32, 43, 32, 50], .str [102, 40, 101, 41, 32, 61, 32, 40, 49, 41], .str [102, 40, 101, 41, 32, 61, 32, 40, 49, 32, 47, 32, 50, 41], .str [102, 40, 101, 41, 32, 61, 32, 40, 49, 32, 43, 32, 50, 32, 43, 32, 51, 41], .str [102, 40, 101, 41, 32, 61, 32, 40, 105, 102, 32, 101, 32, 60, 32, 49, 32, 116, 104, 101, 110, 32, 50, 41], .str [102, 40, 101, 41, 32, 61, 32, 105, 102, 32, 101, 32, 60, 32, 49, 32, 116, 104, 101, 110, 32, 50, 32, 101, 108, 115, 101, 32, 51]], .lst [.str [102, 40, 101, 41, 32, 61, 32, 40, 105, 102, 32, 49, 32, 60, 32, 50, 32, 116, 104, 101, 110, 32, 50, 32, 101, 108, 115, 101, 32, 51, 41], .str [102, 40, 101, 41, 32, 61, 32, 40, 105, 102, 32, 101, 32, 60, 32, 101, 32, 116, 104, 101, 110, 32, 50, 32, 101, 108, 115, 101, 32, 51, 41], .str [102, 40, 101, 41, 32, 61, 32, 40, 105, 102, 32, 101, 32, 60, 32, 49, 48, 48, 49, 32, 116, 104, 101, 110, 32, 50, 32, 101, 108, 115, 101, 32, 51, 41]], .lst [.str [], .str [32], .str [102], .str [102, 40, 101, 41], .str [102, 40, 101, 41, 32, 61], .str [102, 40, 101, 41, 32, 61, 32, 49, 59], .str [102, 40, 101, 41, 32, 61, 32, 49, 59, 32, 102, 40, 101, 41, 32, 61, 32, 50], .str [102, 40, 97, 41, 32, 61, 32, 49], .str [102, 40, 101, 124, 41, 32, 61, 32, 49], .str [102, 40, 101, 32, 124, 32, 98, 41, 32, 61, 32, 98], .str [102, 40, 101, 32, 124, 32, 97, 44, 32, 99, 41, 32, 61, 32, 97], .str [102, 40, 101, 32, 124, 32, 97, 44, 32, 97, 41, 32, 61, 32, 97], .str [102, 40, 101, 32, 124, 32, 97, 44, 41, 32, 61, 32, 97], .str [102, 40, 101, 41, 32, 61, 32, 97], .str [102, 40, 101, 41, 32, 61, 32, 40, 49, 32, 43, 32, 50], .str [102, 40, 101, 41, 32, 61, 32, 49, 32, 43, 32, 50], .str [102, 40, 101, 41, 32, 61, 32, 40, 49, 41], .str [102, 40, 101, 41, 32, 61, 32, 40, 49, 32, 47, 32, 50, 41], .str [102, 40, 101, 41, 32, 61, 32, 40, 49, 32, 43, 32, 50, 32, 43, 32, 51, 41], .str [102, 40, 101, 41, 32, 61, 32, 40, 105, 102, 32, 101, 32, 60, 32, 49, 32, 116, 104, 101, 110, 32, 50, 41], .str [102, 40, 101, 41, 32, 61, 32, 105, 102, 32, 101, 32, 60, 32, 49, 32, 116, 104, 101, 110, 32, 50, 32, 101, 108, 115, 101, 32, 51], .str [102, 40, 101, 41, 32, 61, 32, 40, 105, 102, 32, 49, 32, 60, 32, 50, 32, 116, 104, 101, 110, 32, 50, 32, 101, 108, 115, 101, 32, 51, 41], .str [102, 40, 101, 41, 32, 61, 32, 40, 105, 102, 32, 101, 32, 60, 32, 101, 32, 116, 104, 101, 110, 32, 50, 32, 101, 108, 115, 101, 32, 51, 41], .str [102, 40, 101, 41, 32, 61, 32, 40, 105, 102, 32, 101, 32, 60, 32, 49, 48, 48, 49, 32, 116, 104, 101, 110, 32, 50, 32, 101, 108, 115, 101, 32, 51, 41]], .lst [.str [102, 40, 101, 41, 32, 61, 32, 40, 105, 102, 32, 101, 32, 109, 111, 100, 32, 49, 32, 61, 32, 48, 32, 116, 104, 101, 110, 32, 50, 32, 101, 108, 115, 101, 32, 51, 41], .str [102, 40, 101, 41, 32, 61, 32, 40, 105, 102, 32, 101, 32, 109, 111, 100, 32, 55, 32, 61, 32, 48, 32, 116, 104, 101, 110, 32, 50, 32, 101, 108, 115, 101, 32, 51, 41]], .lst [.str [], .str [32], .str [102], .str [102, 40, 101, 41], .str [102, 40, 101, 41, 32, 61], .str [102, 40, 101, 41, 32, 61, 32, 49, 59], .str [102, 40, 101, 41, 32, 61, 32, 49, 59, 32, 102, 40, 101, 41, 32, 61, 32, 50], .str [102, 40, 97, 41, 32, 61, 32, 49], .str [102, 40, 101, 124, 41, 32, 61, 32, 49], .str [102, 40, 101, 32, 124, 32, 98, 41, 32, 61, 32, 98], .str [102, 40, 101, 32, 124, 32, 97, 44, 32, 99, 41, 32, 61, 32, 97], .str [102, 40, 101, 32, 124, 32, 97, 44, 32, 97, 41, 32, 61, 32, 97], .str [102, 40, 101, 32, 124, 32, 97, 44, 41, 32, 61, 32, 97], .str [102, 40, 101, 41, 32, 61, 32, 97], .str [102, 40, 101, 41, 32, 61, 32, 40, 49, 32, 43, 32, 50], .str [102, 40, 101, 41, 32, 61, 32, 49, 32, 43, 32, 50], .str [102, 40, 101, 41, 32, 61, 32, 40, 49, 41], .str [102, 40, 101, 41, 32, 61, 32, 40, 49, 32, 47, 32, 50, 41], .str [102, 40, 101, 41, 32, 61, 32, 40, 49, 32, 43, 32, 50, 32, 43, 32, 51, 41], .str [102, 40, 101, 41, 32, 61, 32, 40, 105, 102, 32, 101, 32, 60, 32, 49, 32, 116, 104, 101, 110, 32, 50, 41], .str [102, 40, 101, 41, 32, 61, 32, 105, 102, 32, 101, 32, 60, 32, 49, 32, 116, 104, 101, 110, 32, 50, 32, 101, 108, 115, 101, 32, 51], .str [102, 40, 101, 41, 32, 61, 32, 40, 105, 102, 32, 49, 32, 60, 32, 50, 32, 116, 104, 101, 110, 32, 50, 32, 101, 108, 115, 101, 32, 51, 41], .str [102, 40, 101, 41, 32, 61, 32, 40, 105, 102, 32, 101, 32, 60, 32, 101, 32, 116, 104, 101, 110, 32, 50, 32, 101, 108, 115, 101, 32, 51, 41], .str [102, 40, 101, 41, 32, 61, 32, 40, 105, 102, 32, 101, 32, 60, 32, 49, 48, 48, 49, 32, 116, 104, 101, 110, 32, 50, 32, 101, 108, 115, 101, 32, 51, 41], .str [102, 40, 101, 41, 32, 61, 32, 40, 105, 102, 32, 101, 32, 109, 111, 100, 32, 49, 32, 61, 32, 48, 32, 116, 104, 101, 110, 32, 50, 32, 101, 108, 115, 101, 32, 51, 41], .str [102, 40, 101, 41, 32, 61, 32, 40, 105, 102, 32, 101, 32, 109, 111, 100, 32, 55, 32, 61, 32, 48, 32, 116, 104, 101, 110, 32, 50, 32, 101, 108, 115, 101, 32, 51, 41]], .lst [.str [102, 40, 101, 41, 32, 61, 32, 40, 105, 102, 32, 101, 32, 109, 111, 100, 32, 51, 32, 61, 32, 51, 32, 116, 104, 101, 110, 32, 50, 32, 101, 108, 115, 101, 32, 51, 41]], .lst [.str [], .str [32], .str [102], .str [102, 40, 101, 41], .str [102, 40, 101, 41, 32, 61], .str [102, 40, 101, 41, 32, 61, 32, 49, 59], .str [102, 40, 101, 41, 32, 61, 32, 49, 59, 32, 102, 40, 101, 41, 32, 61, 32, 50], .str [102, 40, 97, 41, 32, 61, 32, 49], .str [102, 40, 101, 124, 41, 32, 61, 32, 49], .str [102, 40, 101, 32, 124, 32, 98, 41, 32, 61, 32, 98], .str [102, 40, 101, 32, 124, 32, 97, 44, 32, 99, 41, 32, 61, 32, 97], .str [102, 40, 101, 32, 124, 32, 97, 44, 32, 97, 41, 32, 61, 32, 97], .str [102, 40, 101, 32, 124, 32, 97, 44, 41, 32, 61, 32, 97], .str [102, 40, 101, 41, 32, 61, 32, 97], .str [102, 40, 101, 41, 32, 61, 32, 40, 49, 32, 43, 32, 50], .str [102, 40, 101, 41, 32, 61, 32, 49, 32, 43, 32, 50], .str [102, 40, 101, 41, 32, 61, 32, 40, 49, 41], .str [102, 40, 101, 41, 32, 61, 32, 40, 49, 32, 47, 32, 50, 41], .str [102, 40, 101, 41, 32, 61, 32, 40, 49, 32, 43, 32, 50, 32, 43, 32, 51, 41], .str [102, 40, 101, 41, 32, 61, 32, 40, 105, 102, 32, 101, 32, 60, 32, 49, 32, 116, 104, 101, 110, 32, 50, 41], .str [102, 40, 101, 41, 32, 61, 32, 105, 102, 32, 101, 32, 60, 32, 49, 32, 116, 104, 101, 110, 32, 50, 32, 101, 108, 115, 101, 32, 51], .str [102, 40, 101, 41, 32, 61, 32, 40, 105, 102, 32, 49, 32, 60, 32, 50, 32, 116, 104, 101, 110, 32, 50, 32, 101, 108, 115, 101, 32, 51, 41], .str [102, 40, 101, 41, 32, 61, 32, 40, 105, 102, 32, 101, 32, 60, 32, 101, 32, 116, 104, 101, 110, 32, 50, 32, 101, 108, 115, 101, 32, 51, 41], .str [102, 40, 101, 41, 32, 61, 32, 40, 105, 102, 32, 101, 32, 60, 32, 49, 48, 48, 49, 32, 116, 104, 101, 110, 32, 50, 32, 101, 108, 115, 101, 32, 51, 41], .str [102, 40, 101, 41, 32, 61, 32, 40, 105, 102, 32, 101, 32, 109, 111, 100, 32, 49, 32, 61, 32, 48, 32, 116, 104, 101, 110, 32, 50, 32, 101, 108, 115, 101, 32, 51, 41], .str [102, 40, 101, 41, 32, 61, 32, 40, 105, 102, 32, 101, 32, 109, 111, 100, 32, 55, 32, 61, 32, 48, 32, 116, 104, 101, 110, 32, 50, 32, 101, 108, 115, 101, 32, 51, 41], .str [102, 40, 101, 41, 32, 61, 32, 40, 105, 102, 32, 101, 32, 109, 111, 100, 32, 51, 32, 61, 32, 51, 32, 116, 104, 101, 110, 32, 50, 32, 101, 108, 115, 101, 32, 51, 41]], .lst [.str [102, 40, 101, 41, 32, 61, 32, 103, 40, 101, 41], .str [102, 40, 101, 41, 32, 61, 32, 102, 40, 41], .str [102, 40, 101, 41, 32, 61, 32, 102, 40, 49, 48, 48, 49, 41], .str [102, 40, 101, 41, 32, 61, 32, 102, 40, 101, 32, 43, 32, 54, 41], .str [102, 40, 101, 41, 32, 61, 32, 102, 40, 101, 32, 43, 32, 48, 41], .str [102, 40, 101, 41, 32, 61, 32, 102, 40, 101, 32, 124, 41]], .lst [.str [], .str [32], .str [102], .str [102, 40, 101, 41], .str [102, 40, 101, 41, 32, 61], .str [102, 40, 101, 41, 32, 61, 32, 49, 59], .str [102, 40, 101, 41, 32, 61, 32, 49, 59, 32, 102, 40, 101, 41, 32, 61, 32, 50], .str [102, 40, 97, 41, 32, 61, 32, 49], .str [102, 40, 101, 124, 41, 32, 61, 32, 49], .str [102, 40, 101, 32, 124, 32, 98, 41, 32, 61, 32, 98], .str [102, 40, 101, 32, 124, 32, 97, 44, 32, 99, 41, 32, 61, 32, 97], .str [102, 40, 101, 32, 124, 32, 97, 44, 32, 97, 41, 32, 61, 32, 97], .str [102, 40, 101, 32, 124, 32, 97, 44, 41, 32, 61, 32, 97], .str [102, 40, 101, 41, 32, 61, 32, 97], .str [102, 40, 101, 41, 32, 61, 32, 40, 49, 32, 43, 32, 50], .str [102, 40, 101, 41, 32, 61, 32, 49, 32, 43, 32, 50], .str [102, 40, 101, 41, 32, 61, 32, 40, 49, 41], .str [102, 40, 101, 41, 32, 61, 32, 40, 49, 32, 47, 32, 50, 41], .str [102, 40, 101, 41, 32, 61, 32, 40, 49, 32, 43, 32, 50, 32, 43, 32, 51, 41], .str [102, 40, 101, 41, 32, 61, 32, 40, 105, 102, 32, 101, 32, 60, 32, 49, 32, 116, 104, 101, 110, 32, 50, 41], .str [102, 40, 101, 41, 32, 61, 32, 105, 102, 32, 101, 32, 60, 32, 49, 32, 116, 104, 101, 110, 32, 50, 32, 101, 108, 115, 101, 32, 51], .str [102, 40, 101, 41, 32, 61, 32, 40, 105, 102, 32, 49, 32, 60, 32, 50, 32, 116, 104, 101, 110, 32, 50, 32, 101, 108, 115, 101, 32, 51, 41], .str [102, 40, 101, 41, 32, 61, 32, 40, 105, 102, 32, 101, 32, 60, 32, 101, 32, 116, 104, 101, 110, 32, 50, 32, 101, 108, 115, 101, 32, 51, 41], .str [102, 40, 101, 41, 32, 61, 32, 40, 105, 102, 32, 101, 32, 60, 32, 49, 48, 48, 49, 32, 116, 104, 101, 110, 32, 50, 32, 101, 108, 115, 101, 32, 51, 41], .str [102, 40, 101, 41, 32, 61, 32, 40, 105, 102, 32, 101, 32, 109, 111, 100, 32, 49, 32, 61, 32, 48, 32, 116, 104, 101, 110, 32, 50, 32, 101, 108, 115, 101, 32, 51, 41], .str [102, 40, 101, 41, 32, 61, 32, 40, 105, 102, 32, 101, 32, 109, 111, 100, 32, 55, 32, 61, 32, 48, 32, 116, 104, 101, 110, 32, 50, 32, 101, 108, 115, 101, 32, 51, 41], .str [102, 40, 101, 41, 32, 61, 32, 40, 105, 102, 32, 101, 32, 109, 111, 100, 32, 51, 32, 61, 32, 51, 32, 116, 104, 101, 110, 32, 50, 32, 101, 108, 115, 101, 32, 51, 41], .str [102, 40, 101, 41, 32, 61, 32, 103, 40, 101, 41], .str [102, 40, 101, 41, 32, 61, 32, 102, 40, 41], .str [102, 40, 101, 41, 32, 61, 32, 102, 40, 49, 48, 48, 49, 41], .str [102, 40, 101, 41, 32, 61, 32, 102, 40, 101, 32, 43, 32, 54, 41], .str [102, 40, 101, 41, 32, 61, 32, 102, 40, 101, 32, 43, 32, 48, 41], .str [102, 40, 101, 41, 32, 61, 32, 102, 40, 101, 32, 124, 41]], .lst [.str [102, 40, 101, 41, 32, 61, 32, 102, 40, 101, 32, 124, 32, 49, 41], .str [102, 40, 101, 32, 124, 32, 97, 41, 32, 61, 32, 102, 40, 101, 41], .str [102, 40, 101, 32, 124, 32, 97, 41, 32, 61, 32, 102, 40, 101, 32, 124, 32, 97, 44, 32, 97, 41], .str [102, 40, 101, 32, 124, 32, 97, 41, 32, 61, 32, 102, 40, 97, 32, 124, 32, 97, 41], .str [102, 40, 101, 41, 32, 61, 32, 48, 49]], .lst [.str [], .str [32], .str [102], .str [102, 40, 101, 41], .str [102, 40, 101, 41, 32, 61], .str [102, 40, 101, 41, 32, 61, 32, 49, 59], .str [102, 40, 101, 41, 32, 61, 32, 49, 59, 32, 102, 40, 101, 41, 32, 61, 32, 50], .str [102, 40, 97, 41, 32, 61, 32, 49], .str [102, 40, 101, 124, 41, 32, 61, 32, 49], .str [102, 40, 101, 32, 124, 32, 98, 41, 32, 61, 32, 98], .str [102, 40, 101, 32, 124, 32, 97, 44, 32, 99, 41, 32, 61, 32, 97], .str [102, 40, 101, 32, 124, 32, 97, 44, 32, 97, 41, 32, 61, 32, 97], .str [102, 40, 101, 32, 124, 32, 97, 44, 41, 32, 61, 32, 97], .str [102, 40, 101, 41, 32, 61, 32, 97], .str [102, 40, 101, 41, 32, 61, 32, 40, 49, 32, 43, 32, 50], .str [102, 40, 101, 41, 32, 61, 32, 49, 32, 43, 32, 50], .str [102, 40, 101, 41, 32, 61, 32, 40, 49, 41], .str [102, 40, 101, 41, 32, 61, 32, 40, 49, 32, 47, 32, 50, 41], .str [102, 40, 101, 41, 32, 61, 32, 40, 49, 32, 43, 32, 50, 32, 43, 32, 51, 41], .str [102, 40, 101, 41, 32, 61, 32, 40, 105, 102, 32, 101, 32, 60, 32, 49, 32, 116, 104, 101, 110, 32, 50, 41], .str [102, 40, 101, 41, 32, 61, 32, 105, 102, 32, 101, 32, 60, 32, 49, 32, 116, 104, 101, 110, 32, 50, 32, 101, 108, 115, 101, 32, 51], .str [102, 40, 101, 41, 32, 61, 32, 40, 105, 102, 32, 49, 32, 60, 32, 50, 32, 116, 104, 101, 110, 32, 50, 32, 101, 108, 115, 101, 32, 51, 41], .str [102, 40, 101, 41, 32, 61, 32, 40, 105, 102, 32, 101, 32, 60, 32, 101, 32, 116, 104, 101, 110, 32, 50, 32, 101, 108, 115, 101, 32, 51, 41], .str [102, 40, 101, 41, 32, 61, 32, 40, 105, 102, 32, 101, 32, 60, 32, 49, 48, 48, 49, 32, 116, 104, 101, 110, 32, 50, 32, 101, 108, 115, 101, 32, 51, 41], .str [102, 40, 101, 41, 32, 61, 32, 40, 105, 102, 32, 101, 32, 109, 111, 100, 32, 49, 32, 61, 32, 48, 32, 116, 104, 101, 110, 32, 50, 32, 101, 108, 115, 101, 32, 51, 41], .str [102, 40, 101, 41, 32, 61, 32, 40, 105, 102, 32, 101, 32, 109, 111, 100, 32, 55, 32, 61, 32, 48, 32, 116, 104, 101, 110, 32, 50, 32, 101, 108, 115, 101, 32, 51, 41], .str [102, 40, 101, 41, 32, 61, 32, 40, 105, 102, 32, 101, 32, 109, 111, 100, 32, 51, 32, 61, 32, 51, 32, 116, 104, 101, 110, 32, 50, 32, 101, 108, 115, 101, 32, 51, 41], .str [102, 40, 101, 41, 32, 61, 32, 103, 40, 101, 41], .str [102, 40, 101, 41, 32, 61, 32, 102, 40, 41], .str [102, 40, 101, 41, 32, 61, 32, 102, 40, 49, 48, 48, 49, 41], .str [102, 40, 101, 41, 32, 61, 32, 102, 40, 101, 32, 43, 32, 54, 41], .str [102, 40, 101, 41, 32, 61, 32, 102, 40, 101, 32, 43, 32, 48, 41], .str [102, 40, 101, 41, 32, 61, 32, 102, 40, 101, 32, 124, 41], .str [102, 40, 101, 41, 32, 61, 32, 102, 40, 101, 32, 124, 32, 49, 41], .str [102, 40, 101, 32, 124, 32, 97, 41, 32, 61, 32, 102, 40, 101, 41], .str [102, 40, 101, 32, 124, 32, 97, 41, 32, 61, 32, 102, 40, 101, 32, 124, 32, 97, 44, 32, 97, 41], .str [102, 40, 101, 32, 124, 32, 97, 41, 32, 61, 32, 102, 40, 97, 32, 124, 32, 97, 41], .str [102, 40, 101, 41, 32, 61, 32, 48, 49]], .lst [.str [102, 40, 101, 41, 32, 61, 32, 49, 48, 48, 48, 48, 48, 49], .str [102, 40, 101, 41, 32, 61, 32, 49, 120], .str [102, 40, 101, 41, 32, 61, 32, 120, 49]], .lst [.str [], .str [32], .str [102], .str [102, 40, 101, 41], .str [102, 40, 101, 41, 32, 61], .str [102, 40, 101, 41, 32, 61, 32, 49, 59], .str [102, 40, 101, 41, 32, 61, 32, 49, 59, 32, 102, 40, 101, 41, 32, 61, 32, 50], .str [102, 40, 97, 41, 32, 61, 32, 49], .str [102, 40, 101, 124, 41, 32, 61, 32, 49], .str [102, 40, 101, 32, 124, 32, 98, 41, 32, 61, 32, 98], .str [102, 40, 101, 32, 124, 32, 97, 44, 32, 99, 41, 32, 61, 32, 97], .str [102, 40, 101, 32, 124, 32, 97, 44, 32, 97, 41, 32, 61, 32, 97], .str [102, 40, 101, 32, 124, 32, 97, 44, 41, 32, 61, 32, 97], .str [102, 40, 101, 41, 32, 61, 32, 97], .str [102, 40, 101, 41, 32, 61, 32, 40, 49, 32, 43, 32, 50], .str [102, 40, 101, 41, 32, 61, 32, 49, 32, 43, 32, 50], .str [102, 40, 101, 41, 32, 61, 32, 40, 49, 41], .str [102, 40, 101, 41, 32, 61, 32, 40, 49, 32, 47, 32, 50, 41], .str [102, 40, 101, 41, 32, 61, 32, 40, 49, 32, 43, 32, 50, 32, 43, 32, 51, 41], .str [102, 40, 101, 41, 32, 61, 32, 40, 105, 102, 32, 101, 32, 60, 32, 49, 32, 116, 104, 101, 110, 32, 50, 41], .str [102, 40, 101, 41, 32, 61, 32, 105, 102, 32, 101, 32, 60, 32, 49, 32, 116, 104, 101, 110, 32, 50, 32, 101, 108, 115, 101, 32, 51], .str [102, 40, 101, 41, 32, 61, 32, 40, 105, 102, 32, 49, 32, 60, 32, 50, 32, 116, 104, 101, 110, 32, 50, 32, 101, 108, 115, 101, 32, 51, 41], .str [102, 40, 101, 41, 32, 61, 32, 40, 105, 102, 32, 101, 32, 60, 32, 101, 32, 116, 104, 101, 110, 32, 50, 32, 101, 108, 115, 101, 32, 51, 41], .str [102, 40, 101, 41, 32, 61, 32, 40, 105, 102, 32, 101, 32, 60, 32, 49, 48, 48, 49, 32, 116, 104, 101, 110, 32, 50, 32, 101, 108, 115, 101, 32, 51, 41], .str [102, 40, 101, 41, 32, 61, 32, 40, 105, 102, 32, 101, 32, 109, 111, 100, 32, 49, 32, 61, 32, 48, 32, 116, 104, 101, 110, 32, 50, 32, 101, 108, 115, 101, 32, 51, 41], .str [102, 40, 101, 41, 32, 61, 32, 40, 105, 102, 32, 101, 32, 109, 111, 100, 32, 55, 32, 61, 32, 48, 32, 116, 104, 101, 110, 32, 50, 32, 101, 108, 115, 101, 32, 51, 41], .str [102, 40, 101, 41, 32, 61, 32, 40, 105, 102, 32, 101, 32, 109, 111, 100, 32, 51, 32, 61, 32, 51, 32, 116, 104, 101, 110, 32, 50, 32, 101, 108, 115, 101, 32, 51, 41], .str [102, 40, 101, 41, 32, 61, 32, 103, 40, 101, 41], .str [102, 40, 101, 41, 32, 61, 32, 102, 40, 41], .str [102, 40, 101, 41, 32, 61, 32, 102, 40, 49, 48, 48, 49, 41], .str [102, 40, 101, 41, 32, 61, 32, 102, 40, 101, 32, 43, 32, 54, 41], .str [102, 40, 101, 41, 32, 61, 32, 102, 40, 101, 32, 43, 32, 48, 41], .str [102, 40, 101, 41, 32, 61, 32, 102, 40, 101, 32, 124, 41], .str [102, 40, 101, 41, 32, 61, 32, 102, 40, 101, 32, 124, 32, 49, 41], .str [102, 40, 101, 32, 124, 32, 97, 41, 32, 61, 32, 102, 40, 101, 41], .str [102, 40, 101, 32, 124, 32, 97, 41, 32, 61, 32, 102, 40, 101, 32, 124, 32, 97, 44, 32, 97, 41], .str [102, 40, 101, 32, 124, 32, 97, 41, 32, 61, 32, 102, 40, 97, 32, 124, 32, 97, 41], .str [102, 40, 101, 41, 32, 61, 32, 48, 49], .str [102, 40, 101, 41, 32, 61, 32, 49, 48, 48, 48, 48, 48, 49], .str [102, 40, 101, 41, 32, 61, 32, 49, 120], .str [102, 40, 101, 41, 32, 61, 32, 120, 49]], .lst [.str [105, 102, 40, 101, 41, 32, 61, 32, 49], .str [109, 111, 100, 40, 101, 41, 32, 61, 32, 49], .str [97, 40, 101, 41, 32, 61, 32, 49], .str [101, 40, 101, 41, 32, 61, 32, 49], .str [116, 111, 111, 108, 111, 110, 103, 110, 97, 109, 101, 40, 101, 41, 32, 61, 32, 49], .str [70, 40, 101, 41, 32, 61, 32, 49], .str [102, 95, 49, 40, 101, 41, 32, 61, 32, 49]], .lst [.str [], .str [32], .str [102], .str [102, 40, 101, 41], .str [102, 40, 101, 41, 32, 61], .str [102, 40, 101, 41, 32, 61, 32, 49, 59], .str [102, 40, 101, 41, 32, 61, 32, 49, 59, 32, 102, 40, 101, 41, 32, 61, 32, 50], .str [102, 40, 97, 41, 32, 61, 32, 49], .str [102, 40, 101, 124, 41, 32, 61, 32, 49], .str [102, 40, 101, 32, 124, 32, 98, 41, 32, 61, 32, 98], .str [102, 40, 101, 32, 124, 32, 97, 44, 32, 99, 41, 32, 61, 32, 97], .str [102, 40, 101, 32, 124, 32, 97, 44, 32, 97, 41, 32, 61, 32, 97], .str [102, 40, 101, 32, 124, 32, 97, 44, 41, 32, 61, 32, 97], .str [102, 40, 101, 41, 32, 61, 32, 97], .str [102, 40, 101, 41, 32, 61, 32, 40, 49, 32, 43, 32, 50], .str [102, 40, 101, 41, 32, 61, 32, 49, 32, 43, 32, 50], .str [102, 40, 101, 41, 32, 61, 32, 40, 49, 41], .str [102, 40, 101, 41, 32, 61, 32, 40, 49, 32, 47, 32, 50, 41], .str [102, 40, 101, 41, 32, 61, 32, 40, 49, 32, 43, 32, 50, 32, 43, 32, 51, 41], .str [102, 40, 101, 41, 32, 61, 32, 40, 105, 102, 32, 101, 32, 60, 32, 49, 32, 116, 104, 101, 110, 32, 50, 41], .str [102, 40, 101, 41, 32, 61, 32, 105, 102, 32, 101, 32, 60, 32, 49, 32, 116, 104, 101, 110, 32, 50, 32, 101, 108, 115, 101, 32, 51], .str [102, 40, 101, 41, 32, 61, 32, 40, 105, 102, 32, 49, 32, 60, 32, 50, 32, 116, 104, 101, 110, 32, 50, 32, 101, 108, 115, 101, 32, 51, 41], .str [102, 40, 101, 41, 32, 61, 32, 40, 105, 102, 32, 101, 32, 60, 32, 101, 32, 116, 104, 101, 110, 32, 50, 32, 101, 108, 115, 101, 32, 51, 41], .str [102, 40, 101, 41, 32, 61, 32, 40, 105, 102, 32, 101, 32, 60, 32, 49, 48, 48, 49, 32, 116, 104, 101, 110, 32, 50, 32, 101, 108, 115, 101, 32, 51, 41], .str [102, 40, 101, 41, 32, 61, 32, 40, 105, 102, 32, 101, 32, 109, 111, 100, 32, 49, 32, 61, 32, 48, 32, 116, 104, 101, 110, 32, 50, 32, 101, 108, 115, 101, 32, 51, 41], .str [102, 40, 101, 41, 32, 61, 32, 40, 105, 102, 32, 101, 32, 109, 111, 100, 32, 55, 32, 61, 32, 48, 32, 116, 104, 101, 110, 32, 50, 32, 101, 108, 115, 101, 32, 51, 41], .str [102, 40, 101, 41, 32, 61, 32, 40, 105, 102, 32, 101, 32, 109, 111, 100, 32, 51, 32, 61, 32, 51, 32, 116, 104, 101, 110, 32, 50, 32, 101, 108, 115, 101, 32, 51, 41], .str [102, 40, 101, 41, 32, 61, 32, 103, 40, 101, 41], .str [102, 40, 101, 41, 32, 61, 32, 102, 40, 41], .str [102, 40, 101, 41, 32, 61, 32, 102, 40, 49, 48, 48, 49, 41], .str [102, 40, 101, 41, 32, 61, 32, 102, 40, 101, 32, 43, 32, 54, 41], .str [102, 40, 101, 41, 32, 61, 32, 102, 40, 101, 32, 43, 32, 48, 41], .str [102, 40, 101, 41, 32, 61, 32, 102, 40, 101, 32, 124, 41], .str [102, 40, 101, 41, 32, 61, 32, 102, 40, 101, 32, 124, 32, 49, 41], .str [102, 40, 101, 32, 124, 32, 97, 41, 32, 61, 32, 102, 40, 101, 41], .str [102, 40, 101, 32, 124, 32, 97, 41, 32, 61, 32, 102, 40, 101, 32, 124, 32, 97, 44, 32, 97, 41], .str [102, 40, 101, 32, 124, 32, 97, 41, 32, 61, 32, 102, 40, 97, 32, 124, 32, 97, 41], .str [102, 40, 101, 41, 32, 61, 32, 48, 49], .str [102, 40, 101, 41, 32, 61, 32, 49, 48, 48, 48, 48, 48, 49], .str [102, 40, 101, 41, 32, 61, 32, 49, 120], .str [102, 40, 101, 41, 32, 61, 32, 120, 49], .str [105, 102, 40, 101, 41, 32, 61, 32, 49], .str [109, 111, 100, 40, 101, 41, 32, 61, 32, 49], .str [97, 40, 101, 41, 32, 61, 32, 49], .str [101, 40, 101, 41, 32, 61, 32, 49], .str [116, 111, 111, 108, 111, 110, 103, 110, 97, 109, 101, 40, 101, 41, 32, 61, 32, 49], .str [70, 40, 101, 41, 32, 61, 32, 49], .str [102, 95, 49, 40, 101, 41, 32, 61, 32, 49]], .lst [.str [102, 40, 101, 41, 32, 61, 32, 40, 97, 32, 43, 32, 49, 41], .str [102, 40, 101, 41, 32, 61, 61, 32, 49], .str [102, 40, 101, 41, 32, 61, 32, 49, 32, 102], .str [102, 40, 101, 32, 124, 32, 97, 44, 32, 98, 44, 32, 99, 44, 32, 100, 44, 32, 101, 41, 32, 61, 32, 49], .str [102, 40, 101, 32, 124, 32, 97, 44, 32, 98, 44, 32, 99, 44, 32, 100, 44, 32, 97, 41, 32, 61, 32, 49], .str [102, 40, 101, 41, 32, 61, 32, 45, 49]], .lst [.str [], .str [32], .str [102], .str [102, 40, 101, 41], .str [102, 40, 101, 41, 32, 61], .str [102, 40, 101, 41, 32, 61, 32, 49, 59], .str [102, 40, 101, 41, 32, 61, 32, 49, 59, 32, 102, 40, 101, 41, 32, 61, 32, 50], .str [102, 40, 97, 41, 32, 61, 32, 49], .str [102, 40, 101, 124, 41, 32, 61, 32, 49], .str [102, 40, 101, 32, 124, 32, 98, 41, 32, 61, 32, 98], .str [102, 40, 101, 32, 124, 32, 97, 44, 32, 99, 41, 32, 61, 32, 97], .str [102, 40, 101, 32, 124, 32, 97, 44, 32, 97, 41, 32, 61, 32, 97], .str [102, 40, 101, 32, 124, 32, 97, 44, 41, 32, 61, 32, 97], .str [102, 40, 101, 41, 32, 61, 32, 97], .str [102, 40, 101, 41, 32, 61, 32, 40, 49, 32, 43, 32, 50], .str [102, 40, 101, 41, 32, 61, 32, 49, 32, 43, 32, 50], .str [102, 40, 101, 41, 32, 61, 32, 40, 49, 41], .str [102, 40, 101, 41, 32, 61, 32, 40, 49, 32, 47, 32, 50, 41], .str [102, 40, 101, 41, 32, 61, 32, 40, 49, 32, 43, 32, 50, 32, 43, 32, 51, 41], .str [102, 40, 101, 41, 32, 61, 32, 40, 105, 102, 32, 101, 32, 60, 32, 49, 32, 116, 104, 101, 110, 32, 50, 41], .str [102, 40, 101, 41, 32, 61, 32, 105, 102, 32, 101, 32, 60, 32, 49, 32, 116, 104, 101, 110, 32, 50, 32, 101, 108, 115, 101, 32, 51], .str [102, 40, 101, 41, 32, 61, 32, 40, 105, 102, 32, 49, 32, 60, 32, 50, 32, 116, 104, 101, 110, 32, 50, 32, 101, 108, 115, 101, 32, 51, 41], .str [102, 40, 101, 41, 32, 61, 32, 40, 105, 102, 32, 101, 32, 60, 32, 101, 32, 116, 104, 101, 110, 32, 50, 32, 101, 108, 115, 101, 32, 51, 41], .str [102, 40, 101, 41, 32, 61, 32, 40, 105, 102, 32, 101, 32, 60, 32, 49, 48, 48, 49, 32, 116, 104, 101, 110, 32, 50, 32, 101, 108, 115, 101, 32, 51, 41], .str [102, 40, 101, 41, 32, 61, 32, 40, 105, 102, 32, 101, 32, 109, 111, 100, 32, 49, 32, 61, 32, 48, 32, 116, 104, 101, 110, 32, 50, 32, 101, 108, 115, 101, 32, 51, 41], .str [102, 40, 101, 41, 32, 61, 32, 40, 105, 102, 32, 101, 32, 109, 111, 100, 32, 55, 32, 61, 32, 48, 32, 116, 104, 101, 110, 32, 50, 32, 101, 108, 115, 101, 32, 51, 41], .str [102, 40, 101, 41, 32, 61, 32, 40, 105, 102, 32, 101, 32, 109, 111, 100, 32, 51, 32, 61, 32, 51, 32, 116, 104, 101, 110, 32, 50, 32, 101, 108, 115, 101, 32, 51, 41], .str [102, 40, 101, 41, 32, 61, 32, 103, 40, 101, 41], .str [102, 40, 101, 41, 32, 61, 32, 102, 40, 41], .str [102, 40, 101, 41, 32, 61, 32, 102, 40, 49, 48, 48, 49, 41], .str [102, 40, 101, 41, 32, 61, 32, 102, 40, 101, 32, 43, 32, 54, 41], .str [102, 40, 101, 41, 32, 61, 32, 102, 40, 101, 32, 43, 32, 48, 41], .str [102, 40, 101, 41, 32, 61, 32, 102, 40, 101, 32, 124, 41], .str [102, 40, 101, 41, 32, 61, 32, 102, 40, 101, 32, 124, 32, 49, 41], .str [102, 40, 101, 32, 124, 32, 97, 41, 32, 61, 32, 102, 40, 101, 41], .str [102, 40, 101, 32, 124, 32, 97, 41, 32, 61, 32, 102, 40, 101, 32, 124, 32, 97, 44, 32, 97, 41], .str [102, 40, 101, 32, 124, 32, 97, 41, 32, 61, 32, 102, 40, 97, 32, 124, 32, 97, 41], .str [102, 40, 101, 41, 32, 61, 32, 48, 49], .str [102, 40, 101, 41, 32, 61, 32, 49, 48, 48, 48, 48, 48, 49], .str [102, 40, 101, 41, 32, 61, 32, 49, 120], .str [102, 40, 101, 41, 32, 61, 32, 120, 49], .str [105, 102, 40, 101, 41, 32, 61, 32, 49], .str [109, 111, 100, 40, 101, 41, 32, 61, 32, 49], .str [97, 40, 101, 41, 32, 61, 32, 49], .str [101, 40, 101, 41, 32, 61, 32, 49], .str [116, 111, 111, 108, 111, 110, 103, 110, 97, 109, 101, 40, 101, 41, 32, 61, 32, 49], .str [70, 40, 101, 41, 32, 61, 32, 49], .str [102, 95, 49, 40, 101, 41, 32, 61, 32, 49], .str [102, 40, 101, 41, 32, 61, 32, 40, 97, 32, 43, 32, 49, 41], .str [102, 40, 101, 41, 32, 61, 61, 32, 49], .str [102, 40, 101, 41, 32, 61, 32, 49, 32, 102], .str [102, 40, 101, 32, 124, 32, 97, 44, 32, 98, 44, 32, 99, 44, 32, 100, 44, 32, 101, 41, 32, 61, 32, 49], .str [102, 40, 101, 32, 124, 32, 97, 44, 32, 98, 44, 32, 99, 44, 32, 100, 44, 32, 97, 41, 32, 61, 32, 49], .str [102, 40, 101, 41, 32, 61, 32, 45, 49]], .lst [.str [102, 40, 101, 41, 32, 61, 32, 40, 105, 102, 97, 32, 60, 32, 49, 32, 116, 104, 101, 110, 32, 49, 32, 101, 108, 115, 101, 32, 50, 41]], .lst [.str [], .str [32], .str [102], .str [102, 40, 101, 41], .str [102, 40, 101, 41, 32, 61], .str [102, 40, 101, 41, 32, 61, 32, 49, 59], .str [102, 40, 101, 41, 32, 61, 32, 49, 59, 32, 102, 40, 101, 41, 32, 61, 32, 50], .str [102, 40, 97, 41, 32, 61, 32, 49], .str [102, 40, 101, 124, 41, 32, 61, 32, 49], .str [102, 40, 101, 32, 124, 32, 98, 41, 32, 61, 32, 98], .str [102, 40, 101, 32, 124, 32, 97, 44, 32, 99, 41, 32, 61, 32, 97], .str [102, 40, 101, 32, 124, 32, 97, 44, 32, 97, 41, 32, 61, 32, 97], .str [102, 40, 101, 32, 124, 32, 97, 44, 41, 32, 61, 32, 97], .str [102, 40, 101, 41, 32, 61, 32, 97], .str [102, 40, 101, 41, 32, 61, 32, 40, 49, 32, 43, 32, 50], .str [102, 40, 101, 41, 32, 61, 32, 49, 32, 43, 32, 50], .str [102, 40, 101, 41, 32, 61, 32, 40, 49, 41], .str [102, 40, 101, 41, 32, 61, 32, 40, 49, 32, 47, 32, 50, 41], .str [102, 40, 101, 41, 32, 61, 32, 40, 49, 32, 43, 32, 50, 32, 43, 32, 51, 41], .str [102, 40, 101, 41, 32, 61, 32, 40, 105, 102, 32, 101, 32, 60, 32, 49, 32, 116, 104, 101, 110, 32, 50, 41], .str [102, 40, 101, 41, 32, 61, 32, 105, 102, 32, 101, 32, 60, 32, 49, 32, 116, 104, 101, 110, 32, 50, 32, 101, 108, 115, 101, 32, 51], .str [102, 40, 101, 41, 32, 61, 32, 40, 105, 102, 32, 49, 32, 60, 32, 50, 32, 116, 104, 101, 110, 32, 50, 32, 101, 108, 115, 101, 32, 51, 41], .str [102, 40, 101, 41, 32, 61, 32, 40, 105, 102, 32, 101, 32, 60, 32, 101, 32, 116, 104, 101, 110, 32, 50, 32, 101, 108, 115, 101, 32, 51, 41], .str [102, 40, 101, 41, 32, 61, 32, 40, 105, 102, 32, 101, 32, 60, 32, 49, 48, 48, 49, 32, 116, 104, 101, 110, 32, 50, 32, 101, 108, 115, 101, 32, 51, 41], .str [102, 40, 101, 41, 32, 61, 32, 40, 105, 102, 32, 101, 32, 109, 111, 100, 32, 49, 32, 61, 32, 48, 32, 116, 104, 101, 110, 32, 50, 32, 101, 108, 115, 101, 32, 51, 41], .str [102, 40, 101, 41, 32, 61, 32, 40, 105, 102, 32, 101, 32, 109, 111, 100, 32, 55, 32, 61, 32, 48, 32, 116, 104, 101, 110, 32, 50, 32, 101, 108, 115, 101, 32, 51, 41], .str [102, 40, 101, 41, 32, 61, 32, 40, 105, 102, 32, 101, 32, 109, 111, 100, 32, 51, 32, 61, 32, 51, 32, 116, 104, 101, 110, 32, 50, 32, 101, 108, 115, 101, 32, 51, 41], .str [102, 40, 101, 41, 32, 61, 32, 103, 40, 101, 41], .str [102, 40, 101, 41, 32, 61, 32, 102, 40, 41], .str [102, 40, 101, 41, 32, 61, 32, 102, 40, 49, 48, 48, 49, 41], .str [102, 40, 101, 41, 32, 61, 32, 102, 40, 101, 32, 43, 32, 54, 41], .str [102, 40, 101, 41, 32, 61, 32, 102, 40, 101, 32, 43, 32, 48, 41], .str [102, 40, 101, 41, 32, 61, 32, 102, 40, 101, 32, 124, 41], .str [102, 40, 101, 41, 32, 61, 32, 102, 40, 101, 32, 124, 32, 49, 41], .str [102, 40, 101, 32, 124, 32, 97, 41, 32, 61, 32, 102, 40, 101, 41], .str [102, 40, 101, 32, 124, 32, 97, 41, 32, 61, 32, 102, 40, 101, 32, 124, 32, 97, 44, 32, 97, 41], .str [102, 40, 101, 32, 124, 32, 97, 41, 32, 61, 32, 102, 40, 97, 32, 124, 32, 97, 41], .str [102, 40, 101, 41, 32, 61, 32, 48, 49], .str [102, 40, 101, 41, 32, 61, 32, 49, 48, 48, 48, 48, 48, 49], .str [102, 40, 101, 41, 32, 61, 32, 49, 120], .str [102, 40, 101, 41, 32, 61, 32, 120, 49], .str [105, 102, 40, 101, 41, 32, 61, 32, 49], .str [109, 111, 100, 40, 101, 41, 32, 61, 32, 49], .str [97, 40, 101, 41, 32, 61, 32, 49], .str [101, 40, 101, 41, 32, 61, 32, 49], .str [116, 111, 111, 108, 111, 110, 103, 110, 97, 109, 101, 40, 101, 41, 32, 61, 32, 49], .str [70, 40, 101, 41, 32, 61, 32, 49], .str [102, 95, 49, 40, 101, 41, 32, 61, 32, 49], .str [102, 40, 101, 41, 32, 61, 32, 40, 97, 32, 43, 32, 49, 41], .str [102, 40, 101, 41, 32, 61, 61, 32, 49], .str [102, 40, 101, 41, 32, 61, 32, 49, 32, 102], .str [102, 40, 101, 32, 124, 32, 97, 44, 32, 98, 44, 32, 99, 44, 32, 100, 44, 32, 101, 41, 32, 61, 32, 49], .str [102, 40, 101, 32, 124, 32, 97, 44, 32, 98, 44, 32, 99, 44, 32, 100, 44, 32, 97, 41, 32, 61, 32, 49], .str [102, 40, 101, 41, 32, 61, 32, 45, 49], .str [102, 40, 101, 41, 32, 61, 32, 40, 105, 102, 97, 32, 60, 32, 49, 32, 116, 104, 101, 110, 32, 49, 32, 101, 108, 115, 101, 32, 50, 41]], .lst [.str [102, 40, 101, 41, 61, 49], .str [102, 40, 101, 124, 97, 41, 61, 97], .str [102, 40, 101, 32, 124, 32, 97, 44, 32, 98, 44, 32, 99, 44, 32, 100, 41, 32, 61, 32, 100], .str [102, 40, 101, 41, 32, 61, 32, 40, 49, 32, 43, 32, 50, 41], .str [102, 40, 101, 41, 32, 61, 32, 40, 105, 102, 32, 101, 32, 60, 32, 49, 48, 48, 48, 32, 116, 104, 101, 110, 32, 50, 32, 101, 108, 115, 101, 32, 51, 41]], .lst [.str [102, 40, 101, 41, 32, 61, 32, 40, 105, 102, 32, 101, 32, 109, 111, 100, 32, 54, 32, 61, 32, 53, 32, 116, 104, 101, 110, 32, 50, 32, 101, 108, 115, 101, 32, 51, 41], .str [102, 40, 101, 32, 124, 32, 97, 41, 32, 61, 32, 40, 105, 102, 32, 101, 32, 60, 32, 97, 32, 116, 104, 101, 110, 32, 50, 32, 101, 108, 115, 101, 32, 51, 41]], .lst [.str [102, 40, 101, 41, 61, 49], .str [102, 40, 101, 124, 97, 41, 61, 97], .str [102, 40, 101, 32, 124, 32, 97, 44, 32, 98, 44, 32, 99, 44, 32, 100, 41, 32, 61, 32, 100], .str [102, 40, 101, 41, 32, 61, 32, 40, 49, 32, 43, 32, 50, 41], .str [102, 40, 101, 41, 32, 61, 32, 40, 105, 102, 32, 101, 32, 60, 32, 49, 48, 48, 48, 32, 116, 104, 101, 110, 32, 50, 32, 101, 108, 115, 101, 32, 51, 41], .str [102, 40, 101, 41, 32, 61, 32, 40, 105, 102, 32, 101, 32, 109, 111, 100, 32, 54, 32, 61, 32, 53, 32, 116, 104, 101, 110, 32, 50, 32, 101, 108, 115, 101, 32, 51, 41], .str [102, 40, 101, 32, 124, 32, 97, 41, 32, 61, 32, 40, 105, 102, 32, 101, 32, 60, 32, 97, 32, 116, 104, 101, 110, 32, 50, 32, 101, 108, 115, 101, 32, 51, 41]], .lst [.str [102, 40, 101, 32, 124, 32, 97, 41, 32, 61, 32, 40, 105, 102, 32, 97, 32, 60, 32, 101, 32, 116, 104, 101, 110, 32, 50, 32, 101, 108, 115, 101, 32, 51, 41], .str [102, 40, 101, 41, 32, 61, 32, 102, 40, 101, 41], .str [102, 40, 101, 41, 32, 61, 32, 102, 40, 48, 41], .str [102, 40, 101, 41, 32, 61, 32, 102, 40, 101, 32, 43, 32, 53, 41], .str [102, 40, 101, 41, 32, 61, 32, 102, 40, 101, 32, 45, 32, 53, 41]], .lst [.str [102, 40, 101, 41, 61, 49], .str [102, 40, 101, 124, 97, 41, 61, 97], .str [102, 40, 101, 32, 124, 32, 97, 44, 32, 98, 44, 32, 99, 44, 32, 100, 41, 32, 61, 32, 100], .str [102, 40, 101, 41, 32, 61, 32, 40, 49, 32, 43, 32, 50, 41], .str [102, 40, 101, 41, 32, 61, 32, 40, 105, 102, 32, 101, 32, 60, 32, 49, 48, 48, 48, 32, 116, 104, 101, 110, 32, 50, 32, 101, 108, 115, 101, 32, 51, 41], .str [102, 40, 101, 41, 32, 61, 32, 40, 105, 102, 32, 101, 32, 109, 111, 100, 32, 54, 32, 61, 32, 53, 32, 116, 104, 101, 110, 32, 50, 32, 101, 108, 115, 101, 32, 51, 41], .str [102, 40, 101, 32, 124, 32, 97, 41, 32, 61, 32, 40, 105, 102, 32, 101, 32, 60, 32, 97, 32, 116, 104, 101, 110, 32, 50, 32, 101, 108, 115, 101, 32, 51, 41], .str [102, 40, 101, 32, 124, 32, 97, 41, 32, 61, 32, 40, 105, 102, 32, 97, 32, 60, 32, 101, 32, 116, 104, 101, 110, 32, 50, 32, 101, 108, 115, 101, 32, 51, 41], .str [102, 40, 101, 41, 32, 61, 32, 102, 40, 101, 41], .str [102, 40, 101, 41, 32, 61, 32, 102, 40, 48, 41], .str [102, 40, 101, 41, 32, 61, 32, 102, 40, 101, 32, 43, 32, 53, 41], .str [102, 40, 101, 41, 32, 61, 32, 102, 40, 101, 32, 45, 32, 53, 41]], .lst [.str [120, 40, 101, 41, 32, 61, 32, 49, 48, 48, 48, 48, 48, 48, 59, 32, 121, 40, 101, 41, 32, 61, 32, 120, 40, 49, 48, 48, 48, 41]], .lst [.str [102, 40, 101, 41, 61, 49], .str [102, 40, 101, 124, 97, 41, 61, 97], .str [102, 40, 101, 32, 124, 32, 97, 44, 32, 98, 44, 32, 99, 44, 32, 100, 41, 32, 61, 32, 100], .str [102, 40, 101, 41, 32, 61, 32, 40, 49, 32, 43, 32, 50, 41], .str [102, 40, 101, 41, 32, 61, 32, 40, 105, 102, 32, 101, 32, 60, 32, 49, 48, 48, 48, 32, 116, 104, 101, 110, 32, 50, 32, 101, 108, 115, 101, 32, 51, 41], .str [102, 40, 101, 41, 32, 61, 32, 40, 105, 102, 32, 101, 32, 109, 111, 100, 32, 54, 32, 61, 32, 53, 32, 116, 104, 101, 110, 32, 50, 32, 101, 108, 115, 101, 32, 51, 41], .str [102, 40, 101, 32, 124, 32, 97, 41, 32, 61, 32, 40, 105, 102, 32, 101, 32, 60, 32, 97, 32, 116, 104, 101, 110, 32, 50, 32, 101, 108, 115, 101, 32, 51, 41], .str [102, 40, 101, 32, 124, 32, 97, 41, 32, 61, 32, 40, 105, 102, 32, 97, 32, 60, 32, 101, 32, 116, 104, 101, 110, 32, 50, 32, 101, 108, 115, 101, 32, 51, 41], .str [102, 40, 101, 41, 32, 61, 32, 102, 40, 101, 41], .str [102, 40, 101, 41, 32, 61, 32, 102, 40, 48, 41], .str [102, 40, 101, 41, 32, 61, 32, 102, 40, 101, 32, 43, 32, 53, 41], .str [102, 40, 101, 41, 32, 61, 32, 102, 40, 101, 32, 45, 32, 53, 41], .str [120, 40, 101, 41, 32, 61, 32, 49, 48, 48, 48, 48, 48, 48, 59, 32, 121, 40, 101, 41, 32, 61, 32, 120, 40, 49, 48, 48, 48, 41]], .lst [.str [102, 95, 49, 40, 41, 32, 61, 32, 97], .str [102, 95, 49, 40, 101, 41, 32, 61, 32, 49], .str [102, 40, 97, 41, 32, 61, 32, 97], .str [102, 95, 48, 49, 40, 41, 32, 61, 32, 49], .str [102, 95, 40, 41, 32, 61, 32, 49], .str [95, 49, 40, 41, 32, 61, 32, 49], .str [102, 95, 49, 40, 41, 32, 61, 32, 101]], .lst [.str [102, 95, 49, 40, 41, 32, 61, 32, 40, 105, 102, 32, 101, 32, 60, 32, 49, 32, 116, 104, 101, 110, 32, 50, 32, 101, 108, 115, 101, 32, 51, 41], .str [102, 95, 49, 40, 41, 32, 61, 32, 102, 95, 50, 40, 41], .str [102, 95, 49, 40, 41, 32, 61, 32, 102, 95, 49, 40, 49, 41], .str [102, 95, 49, 40, 97, 41, 32, 61, 32, 102, 95, 49, 40, 41], .str [102, 95, 49, 40, 41, 32, 61, 32, 49, 59, 32, 102, 95, 49, 40, 41, 32, 61, 32, 50]], .lst [.str [102, 95, 49, 40, 41, 32, 61, 32, 97], .str [102, 95, 49, 40, 101, 41, 32, 61, 32, 49], .str [102, 40, 97, 41, 32, 61, 32, 97], .str [102, 95, 48, 49, 40, 41, 32, 61, 32, 49], .str [102, 95, 40, 41, 32, 61, 32, 49], .str [95, 49, 40, 41, 32, 61, 32, 49], .str [102, 95, 49, 40, 41, 32, 61, 32, 101], .str [102, 95, 49, 40, 41, 32, 61, 32, 40, 105, 102, 32, 101, 32, 60, 32, 49, 32, 116, 104, 101, 110, 32, 50, 32, 101, 108, 115, 101, 32, 51, 41], .str [102, 95, 49, 40, 41, 32, 61, 32, 102, 95, 50, 40, 41], .str [102, 95, 49, 40, 41, 32, 61, 32, 102, 95, 49, 40, 49, 41], .str [102, 95, 49, 40, 97, 41, 32, 61, 32, 102, 95, 49, 40, 41], .str [102, 95, 49, 40, 41, 32, 61, 32, 49, 59, 32, 102, 95, 49, 40, 41, 32, 61, 32, 50]], .lst [.str [102, 95, 49, 32, 40, 41, 32, 61, 32], .str [102, 95, 49, 48, 48, 48, 48, 48, 48, 49, 40, 41, 32, 61, 32, 49], .str [102, 95, 49, 40, 41, 32, 61, 32, 40, 105, 102, 32, 49, 32, 109, 111, 100, 32, 50, 32, 61, 32, 49, 32, 116, 104, 101, 110, 32, 49, 32, 101, 108, 115, 101, 32, 50, 41], .str [102, 95, 49, 120, 40, 41, 32, 61, 32, 49], .str [102, 95, 49, 40, 98, 41, 32, 61, 32, 98]], .lst [.str [102, 95, 49, 40, 41, 32, 61, 32, 97], .str [102, 95, 49, 40, 101, 41, 32, 61, 32, 49], .str [102, 40, 97, 41, 32, 61, 32, 97], .str [102, 95, 48, 49, 40, 41, 32, 61, 32, 49], .str [102, 95, 40, 41, 32, 61, 32, 49], .str [95, 49, 40, 41, 32, 61, 32, 49], .str [102, 95, 49, 40, 41, 32, 61, 32, 101], .str [102, 95, 49, 40, 41, 32, 61, 32, 40, 105, 102, 32, 101, 32, 60, 32, 49, 32, 116, 104, 101, 110, 32, 50, 32, 101, 108, 115, 101, 32, 51, 41], .str [102, 95, 49, 40, 41, 32, 61, 32, 102, 95, 50, 40, 41], .str [102, 95, 49, 40, 41, 32, 61, 32, 102, 95, 49, 40, 49, 41], .str [102, 95, 49, 40, 97, 41, 32, 61, 32, 102, 95, 49, 40, 41], .str [102, 95, 49, 40, 41, 32, 61, 32, 49, 59, 32, 102, 95, 49, 40, 41, 32, 61, 32, 50], .str [102, 95, 49, 32, 40, 41, 32, 61, 32], .str [102, 95, 49, 48, 48, 48, 48, 48, 48, 49, 40, 41, 32, 61, 32, 49], .str [102, 95, 49, 40, 41, 32, 61, 32, 40, 105, 102, 32, 49, 32, 109, 111, 100, 32, 50, 32, 61, 32, 49, 32, 116, 104, 101, 110, 32, 49, 32, 101, 108, 115, 101, 32, 50, 41], .str [102, 95, 49, 120, 40, 41, 32, 61, 32, 49], .str [102, 95, 49, 40, 98, 41, 32, 61, 32, 98]], .lst [.str [97, 95, 49, 40, 41, 32, 61, 32, 49]], .lst [.str [102, 95, 49, 40, 41, 32, 61, 32, 97], .str [102, 95, 49, 40, 101, 41, 32, 61, 32, 49], .str [102, 40, 97, 41, 32, 61, 32, 97], .str [102, 95, 48, 49, 40, 41, 32, 61, 32, 49], .str [102, 95, 40, 41, 32, 61, 32, 49], .str [95, 49, 40, 41, 32, 61, 32, 49], .str [102, 95, 49, 40, 41, 32, 61, 32, 101], .str [102, 95, 49, 40, 41, 32, 61, 32, 40, 105, 102, 32, 101, 32, 60, 32, 49, 32, 116, 104, 101, 110, 32, 50, 32, 101, 108, 115, 101, 32, 51, 41], .str [102, 95, 49, 40, 41, 32, 61, 32, 102, 95, 50, 40, 41], .str [102, 95, 49, 40, 41, 32, 61, 32, 102, 95, 49, 40, 49, 41], .str [102, 95, 49, 40, 97, 41, 32, 61, 32, 102, 95, 49, 40, 41], .str [102, 95, 49, 40, 41, 32, 61, 32, 49, 59, 32, 102, 95, 49, 40, 41, 32, 61, 32, 50], .str [102, 95, 49, 32, 40, 41, 32, 61, 32], .str [102, 95, 49, 48, 48, 48, 48, 48, 48, 49, 40, 41, 32, 61, 32, 49], .str [102, 95, 49, 40, 41, 32, 61, 32, 40, 105, 102, 32, 49, 32, 109, 111, 100, 32, 50, 32, 61, 32, 49, 32, 116, 104, 101, 110, 32, 49, 32, 101, 108, 115, 101, 32, 50, 41], .str [102, 95, 49, 120, 40, 41, 32, 61, 32, 49], .str [102, 95, 49, 40, 98, 41, 32, 61, 32, 98], .str [97, 95, 49, 40, 41, 32, 61, 32, 49]]]
def E_4 (sp : List Nat) : En := [none, none, some (.str sp), some (.ob 38), some (.str [120, 40, 101, 41, 32, 61, 32, 49, 48, 48, 48, 48, 48, 48, 59, 32, 121, 40, 101, 41, 32, 61, 32, 120, 40, 49, 48, 48, 48, 41]), some (.ob 31), none, some (.str [120, 40, 101, 41, 61, 49, 48, 48, 48, 48, 48, 48, 59, 121, 40, 101, 41, 61, 120, 40, 49, 48, 48, 48, 41]), none]
def T_5 : List D := [.str [102, 95, 49, 40, 41, 32, 61, 32, 97], .str [102, 95, 49, 40, 101, 41, 32, 61, 32, 49], .str [102, 40, 97, 41, 32, 61, 32, 97], .str [102, 95, 48, 49, 40, 41, 32, 61, 32, 49], .str [102, 95, 40, 41, 32, 61, 32, 49], .str [95, 49, 40, 41, 32, 61, 32, 49], .str [102, 95, 49, 40, 41, 32, 61, 32, 101], .str [102, 95, 49, 40, 41, 32, 61, 32, 40, 105, 102, 32, 101, 32, 60, 32, 49, 32, 116, 104, 101, 110, 32, 50, 32, 101, 108, 115, 101, 32, 51, 41], .str [102, 95, 49, 40, 41, 32, 61, 32, 102, 95, 50, 40, 41], .str [102, 95, 49, 40, 41, 32, 61, 32, 102, 95, 49, 40, 49, 41], .str [102, 95, 49, 40, 97, 41, 32, 61, 32, 102, 95, 49, 40, 41], .str [102, 95, 49, 40, 41, 32, 61, 32, 49, 59, 32, 102, 95, 49, 40, 41, 32, 61, 32, 50], .str [102, 95, 49, 32, 40, 41, 32, 61, 32], .str [102, 95, 49, 48, 48, 48, 48, 48, 48, 49, 40, 41, 32, 61, 32, 49], .str [102, 95, 49, 40, 41, 32, 61, 32, 40, 105, 102, 32, 49, 32, 109, 111, 100, 32, 50, 32, 61, 32, 49, 32, 116, 104, 101, 110, 32, 49, 32, 101, 108, 115, 101, 32, 50, 41], .str [102, 95, 49, 120, 40, 41, 32, 61, 32, 49], .str [102, 95, 49, 40, 98, 41, 32, 61, 32, 98], .str [97, 95, 49, 40, 41, 32, 61, 32, 49]]
def E_5 (sp : List Nat) : En := envAt nx4 T_5 (E_4 sp) 18
def chk_5 (sp : List Nat) (k : Nat) : Bool := turnB (lb_23 (fsN 60)) nx4 T_5 (E_4 sp) S_4 k
def S_6 : Sto := [.lst [.str [], .str [32], .str [102], .str [102, 40, 101, 41], .str [102, 40, 101, 41, 32, 61], .str [102, 40, 101, 41, 32, 61, 32, 49, 59], .str [102, 40, 101, 41, 32, 61, 32, 49, 59, 32, 102, 40, 101, 41, 32, 61, 32, 50], .str [102, 40, 97, 41, 32, 61, 32, 49], .str [102, 40, 101, 124, 41, 32, 61, 32, 49], .str [102, 40, 101, 32, 124, 32, 98, 41, 32, 61, 32, 98]], .lst [.str [102, 40, 101, 32, 124, 32, 97, 44, 32, 99, 41, 32, 61, 32, 97], .str [102, 40, 101, 32, 124, 32, 97, 44, 32, 97, 41, 32, 61, 32, 97]], .lst [.str [], .str [32], .str [102], .str [102, 40, 101, 41], .str [102, 40, 101, 41, 32, 61], .str [102, 40, 101, 41, 32, 61, 32, 49, 59], .str [102, 40, 101, 41, 32, 61, 32, 49, 59, 32, 102, 40, 101, 41, 32, 61, 32, 50], .str [102, 40, 97, 41, 32, 61, 32, 49], .str [102, 40, 101, 124, 41, 32, 61, 32, 49], .str [102, 40, 101, 32, 124, 32, 98, 41, 32, 61, 32, 98], .str [102, 40, 101, 32, 124, 32, 97, 44, 32, 99, 41, 32, 61, 32, 97], .str [102, 40, 101, 32, 124, 32, 97, 44, 32, 97, 41, 32, 61, 32, 97]], .lst [.str [102, 40, 101, 32, 124, 32, 97, 44, 41, 32, 61, 32, 97], .str [102, 40, 101, 41, 32, 61, 32, 97], .str [102, 40, 101, 41, 32, 61, 32, 40, 49, 32, 43, 32, 50], .str [102, 40, 101, 41, 32, 61, 32, 49, 32, 43, 32, 50], .str [102, 40, 101, 41, 32, 61, 32, 40, 49, 41], .str [102, 40, 101, 41, 32, 61, 32, 40, 49, 32, 47, 32, 50, 41]], .lst [.str [], .str [32], .str [102], .str [102, 40, 101, 41], .str [102, 40, 101, 41, 32, 61], .str [102, 40, 101, 41, 32, 61, 32, 49, 59], .str [102, 40, 101, 41, 32, 61, 32, 49, 59, 32, 102, 40, 101, 41, 32, 61, 32, 50], .str [102, 40, 97, 41, 32, 61, 32, 49], .str [102, 40, 101, 124, 41, 32, 61, 32, 49], .str [102, 40, 101, 32, 124, 32, 98, 41, 32, 61, 32, 98], .str [102, 40, 101, 32, 124, 32, 97, 44, 32, 99, 41, 32, 61, 32, 97], .str [102, 40, 101, 32, 124, 32, 97, 44, 32, 97, 41, 32, 61, 32, 97], .str [102, 40, 101, 32, 124, 32, 97, 44, 41, 32, 61, 32, 97], .str [102, 40, 101, 41, 32, 61, 32, 97], .str [102, 40, 101, 41, 32, 61, 32, 40, 49, 32, 43, 32, 50], .str [102, 40, 101, 41, 32, 61, 32, 49, 32, 43, 32, 50], .str [102, 40, 101, 41, 32, 61, 32, 40, 49, 41], .str [102, 40, 101, 41, 32, 61, 32, 40, 49, 32, 47, 32, 50, 41]], .lst [.str [102, 40, 101, 41, 32, 61, 32, 40, 49, 32, 43, 32, 50, 32, 43, 32, 51, 41], .str [102, 40, 101, 41, 32, 61, 32, 40, 105, 102, 32, 101, 32, 60, 32, 49, 32, 116, 104, 101, 110, 32, 50, 41], .str [102, 40, 101, 41, 32, 61, 32, 105, 102, 32, 101, 32, 60, 32, 49, 32, 116, 104, 101, 110, 32, 50, 32, 101, 108, 115, 101, 32, 51]], .lst [.str [], .str [32], .str [102], .str [102, 40, 101, 41], .str [102, 40, 101, 41, 32, 61], .str [102, 40, 101, 41, 32, 61, 32, 49, 59], .str [102, 40, 101, 41, 32, 61, 32, 49, 59, 32, 102, 40, 101, 41, 32, 61, 32, 50], .str [102, 40, 97, 41, 32, 61, 32, 49], .str [102, 40, 101, 124, 41, 32, 61, 32, 49], .str [102, 40, 101, 32, 124, 32, 98, 41, 32, 61, 32, 98], .str [102, 40, 101, 32, 124, 32, 97, 44, 32, 99, 41, 32, 61, 32, 97], .str [102, 40, 101, 32, 124, 32, 97, 44, 32, 97, 41, 32, 61, 32, 97], .str [102, 40, 101, 32, 124, 32, 97, 44, 41, 32, 61, 32, 97], .str [102, 40, 101, 41, 32, 61, 32, 97], .str [102, 40, 101, 41, 32, 61, 32, 40, 49, 32, 43, 32, 50], .str [102, 40, 101, 41, 32, 61, 32, 49, 32, 43, 32, 50], .str [102, 40, 101, 41, 32, 61, 32, 40, 49, 41], .str [102, 40, 101, 41, 32, 61, 32, 40, 49, 32, 47, 32, 50, 41], .str [102, 40, 101, 41, 32, 61, 32, 40, 49, 32, 43, 32, 50, 32, 43, 32, 51, 41], .str [102, 40, 101, 41, 32, 61, 32, 40, 105, 102, 32, 101, 32, 60, 32, 49, 32, 116, 104, 101, 110, 32, 50, 41], .str [102, 40, 101, 41, 32, 61, 32, 105, 102, 32, 101, 32, 60, 32, 49, 32, 116, 104, 101, 110, 32, 50, 32, 101, 108, 115, 101, 32, 51]], .lst [.str [102, 40, 101, 41, 32, 61, 32, 40, 105, 102, 32, 49, 32, 60, 32, 50, 32, 116, 104, 101, 110, 32, 50, 32, 101, 108, 115, 101, 32, 51, 41], .str [102, 40, 101, 41, 32, 61, 32, 40, 105, 102, 32, 101, 32, 60, 32, 101, 32, 116, 104, 101, 110, 32, 50, 32, 101, 108, 115, 101, 32, 51, 41], .str [102, 40, 101, 41, 32, 61, 32, 40, 105, 102, 32, 101, 32, 60, 32, 49, 48, 48, 49, 32, 116, 104, 101, 110, 32, 50, 32, 101, 108, 115, 101, 32, 51, 41]], .lst [.str [], .str [32], .str [102], .str [102, 40, 101, 41], .str [102, 40, 101, 41, 32, 61], .str [102, 40, 101, 41, 32, 61, 32, 49, 59], .str [102, 40, 101, 41, 32, 61, 32, 49, 59, 32, 102, 40, 101, 41, 32, 61, 32, 50], .str [102, 40, 97, 41, 32, 61, 32, 49], .str [102, 40, 101, 124, 41, 32, 61, 32, 49], .str [102, 40, 101, 32, 124, 32, 98, 41, 32, 61, 32, 98], .str [102, 40, 101, 32, 124, 32, 97, 44, 32, 99, 41, 32, 61, 32, 97], .str [102, 40, 101, 32, 124, 32, 97, 44, 32, 97, 41, 32, 61, 32, 97], .str [102, 40, 101, 32, 124, 32, 97, 44, 41, 32, 61, 32, 97], .str [102, 40, 101, 41, 32, 61, 32, 97], .str [102, 40, 101, 41, 32, 61, 32, 40, 49, 32, 43, 32, 50], .str [102, 40, 101, 41, 32, 61, 32, 49, 32, 43, 32, 50], .str [102, 40, 101, 41, 32, 61, 32, 40, 49, 41], .str [102, 40, 101, 41, 32, 61, 32, 40, 49, 32, 47, 32, 50, 41], .str [102, 40, 101, 41, 32, 61, 32, 40, 49, 32, 43, 32, 50, 32, 43, 32, 51, 41], .str [102, 40, 101, 41, 32, 61, 32, 40, 105, 102, 32, 101, 32, 60, 32, 49, 32, 116, 104, 101, 110, 32, 50, 41], .str [102, 40, 101, 41, 32, 61, 32, 105, 102, 32, 101, 32, 60, 32, 49, 32, 116, 104, 101, 110, 32, 50, 32, 101, 108, 115, 101, 32, 51], .str [102, 40, 101, 41, 32, 61, 32, 40, 105, 102, 32, 49, 32, 60, 32, 50, 32, 116, 104, 101, 110, 32, 50, 32, 101, 108, 115, 101, 32, 51, 41], .str [102, 40, 101, 41, 32, 61, 32, 40, 105, 102, 32, 101, 32, 60, 32, 101, 32, 116, 104, 101, 110, 32, 50, 32, 101, 108, 115, 101, 32, 51, 41], .str [102, 40, 101, 41, 32, 61, 32, 40, 105, 102, 32, 101, 32, 60, 32, 49, 48, 48, 49, 32, 116, 104, 101, 110, 32, 50, 32, 101, 108, 115, 101, 32, 51, 41]], .lst [.str [102, 40, 101, 41, 32, 61, 32, 40, 105, 102, 32, 101, 32, 109, 111, 100, 32, 49, 32, 61, 32, 48, 32, 116, 104, 101, 110, 32, 50, 32, 101, 108, 115, 101, 32, 51, 41], .str [102, 40, 101, 41, 32, 61, 32, 40, 105, 102, 32, 101, 32, 109, 111, 100, 32, 55, 32, 61, 32, 48, 32, 116, 104, 101, 110, 32, 50, 32, 101, 108, 115, 101, 32, 51, 41]], .lst [.str [], .str [32], .str [102], .str [102, 40, 101, 41], .str [102, 40, 101, 41, 32, 61], .str [102, 40, 101, 41, 32, 61, 32, 49, 59], .str [102, 40, 101, 41, 32, 61, 32, 49, 59, 32, 102, 40, 101, 41, 32, 61, 32, 50], .str [102, 40, 97, 41, 32, 61, 32, 49], .str [102, 40, 101, 124, 41, 32, 61, 32, 49], .str [102, 40, 101, 32, 124, 32, 98, 41, 32, 61, 32, 98], .str [102, 40, 101, 32, 124, 32, 97, 44, 32, 99, 41, 32, 61, 32, 97], .str [102, 40, 101, 32, 124, 32, 97, 44, 32, 97, 41, 32, 61, 32, 97], .str [102, 40, 101, 32, 124, 32, 97, 44, 41, 32, 61, 32, 97], .str [102, 40, 101, 41, 32, 61, 32, 97], .str [102, 40, 101, 41, 32, 61, 32, 40, 49, 32, 43, 32, 50], .str [102, 40, 101, 41, 32, 61, 32, 49, 32, 43, 32, 50], .str [102, 40, 101, 41, 32, 61, 32, 40, 49, 41], .str [102, 40, 101, 41, 32, 61, 32, 40, 49, 32, 47, 32, 50, 41], .str [102, 40, 101, 41, 32, 61, 32, 40, 49, 32, 43, 32, 50, 32, 43, 32, 51, 41], .str [102, 40, 101, 41, 32, 61, 32, 40, 105, 102, 32, 101, 32, 60, 32, 49, 32, 116, 104, 101, 110, 32, 50, 41], .str [102, 40, 101, 41, 32, 61, 32, 105, 102, 32, 101, 32, 60, 32, 49, 32, 116, 104, 101, 110, 32, 50, 32, 101, 108, 115, 101, 32, 51], .str [102, 40, 101, 41, 32, 61, 32, 40, 105, 102, 32, 49, 32, 60, 32, 50, 32, 116, 104, 101, 110, 32, 50, 32, 101, 108, 115, 101, 32, 51, 41], .str [102, 40, 101, 41, 32, 61, 32, 40, 105, 102, 32, 101, 32, 60, 32, 101, 32, 116, 104, 101, 110, 32, 50, 32, 101, 108, 115, 101, 32, 51, 41], .str [102, 40, 101, 41, 32, 61, 32, 40, 105, 102, 32, 101, 32, 60, 32, 49, 48, 48, 49, 32, 116, 104, 101, 110, 32, 50, 32, 101, 108, 115, 101, 32, 51, 41], .str [102, 40, 101, 41, 32, 61, 32, 40, 105, 102, 32, 101, 32, 109, 111, 100, 32, 49, 32, 61, 32, 48, 32, 116, 104, 101, 110, 32, 50, 32, 101, 108, 115, 101, 32, 51, 41], .str [102, 40, 101, 41, 32, 61, 32, 40, 105, 102, 32, 101, 32, 109, 111, 100, 32, 55, 32, 61, 32, 48, 32, 116, 104, 101, 110, 32, 50, 32, 101, 108, 115, 101, 32, 51, 41]], .lst [.str [102, 40, 101, 41, 32, 61, 32, 40, 105, 102, 32, 101, 32, 109, 111, 100, 32, 51, 32, 61, 32, 51, 32, 116, 104, 101, 110, 32, 50, 32, 101, 108, 115, 101, 32, 51, 41]], .lst [.str [], .str [32], .str [102], .str [102, 40, 101, 41], .str [102, 40, 101, 41, 32, 61], .str [102, 40, 101, 41, 32, 61, 32, 49, 59], .str [102, 40, 101, 41, 32, 61, 32, 49, 59, 32, 102, 40, 101, 41, 32, 61, 32, 50], .str [102, 40, 97, 41, 32, 61, 32, 49], .str [102, 40, 101, 124, 41, 32, 61, 32, 49], .str [102, 40, 101, 32, 124, 32, 98, 41, 32, 61, 32, 98], .str [102, 40, 101, 32, 124, 32, 97, 44, 32, 99, 41, 32, 61, 32, 97], .str [102, 40, 101, 32, 124, 32, 97, 44, 32, 97, 41, 32, 61, 32, 97], .str [102, 40, 101, 32, 124, 32, 97, 44, 41, 32, 61, 32, 97], .str [102, 40, 101, 41, 32, 61, 32, 97], .str [102, 40, 101, 41, 32, 61, 32, 40, 49, 32, 43, 32, 50], .str [102, 40, 101, 41, 32, 61, 32, 49, 32, 43, 32, 50], .str [102, 40, 101, 41, 32, 61, 32, 40, 49, 41], .str [102, 40, 101, 41, 32, 61, 32, 40, 49, 32, 47, 32, 50, 41], .str [102, 40, 101, 41, 32, 61, 32, 40, 49, 32, 43, 32, 50, 32, 43, 32, 51, 41], .str [102, 40, 101, 41, 32, 61, 32, 40, 105, 102, 32, 101, 32, 60, 32, 49, 32, 116, 104, 101, 110, 32, 50, 41], .str [102, 40, 101, 41, 32, 61, 32, 105, 102, 32, 101, 32, 60, 32, 49, 32, 116, 104, 101, 110, 32, 50, 32, 101, 108, 115, 101, 32, 51], .str [102, 40, 101, 41, 32, 61, 32, 40, 105, 102, 32, 49, 32, 60, 32, 50, 32, 116, 104, 101, 110, 32, 50, 32, 101, 108, 115, 101, 32, 51, 41], .str [102, 40, 101, 41, 32, 61, 32, 40, 105, 102, 32, 101, 32, 60, 32, 101, 32, 116, 104, 101, 110, 32, 50, 32, 101, 108, 115, 101, 32, 51, 41], .str [102, 40, 101, 41, 32, 61, 32, 40, 105, 102, 32, 101, 32, 60, 32, 49, 48, 48, 49, 32, 116, 104, 101, 110, 32, 50, 32, 101, 108, 115, 101, 32, 51, 41], .str [102, 40, 101, 41, 32, 61, 32, 40, 105, 102, 32, 101, 32, 109, 111, 100, 32, 49, 32, 61, 32, 48, 32, 116, 104, 101, 110, 32, 50, 32, 101, 108, 115, 101, 32, 51, 41], .str [102, 40, 101, 41, 32, 61, 32, 40, 105, 102, 32, 101, 32, 109, 111, 100, 32, 55, 32, 61, 32, 48, 32, 116, 104, 101, 110, 32, 50, 32, 101, 108, 115, 101, 32, 51, 41], .str [102, 40, 101, 41, 32, 61, 32, 40, 105, 102, 32, 101, 32, 109, 111, 100, 32, 51, 32, 61, 32, 51, 32, 116, 104, 101, 110, 32, 50, 32, 101, 108, 115, 101, 32, 51, 41]], .lst [.str [102, 40, 101, 41, 32, 61, 32, 103, 40, 101, 41], .str [102, 40, 101, 41, 32, 61, 32, 102, 40, 41], .str [102, 40, 101, 41, 32, 61, 32, 102, 40, 49, 48, 48, 49, 41], .str [102, 40, 101, 41, 32, 61, 32, 102, 40, 101, 32, 43, 32, 54, 41], .str [102, 40, 101, 41, 32, 61, 32, 102, 40, 101, 32, 43, 32, 48, 41], .str [102, 40, 101, 41, 32, 61, 32, 102, 40, 101, 32, 124, 41]], .lst [.str [], .str [32], .str [102], .str [102, 40, 101, 41], .str [102, 40, 101, 41, 32, 61], .str [102, 40, 101, 41, 32, 61, 32, 49, 59], .str [102, 40, 101, 41, 32, 61, 32, 49, 59, 32, 102, 40, 101, 41, 32, 61, 32, 50], .str [102, 40, 97, 41, 32, 61, 32, 49], .str [102, 40, 101, 124, 41, 32, 61, 32, 49], .str [102, 40, 101, 32, 124, 32, 98, 41, 32, 61, 32, 98], .str [102, 40, 101, 32, 124, 32, 97, 44, 32, 99, 41, 32, 61, 32, 97], .str [102, 40, 101, 32, 124, 32, 97, 44, 32, 97, 41, 32, 61, 32, 97], .str [102, 40, 101, 32, 124, 32, 97, 44, 41, 32, 61, 32, 97], .str [102, 40, 101, 41, 32, 61, 32, 97], .str [102, 40, 101, 41, 32, 61, 32, 40, 49, 32, 43, 32, 50], .str [102, 40, 101, 41, 32, 61, 32, 49, 32, 43, 32, 50], .str [102, 40, 101, 41, 32, 61, 32, 40, 49, 41], .str [102, 40, 101, 41, 32, 61, 32, 40, 49, 32, 47, 32, 50, 41], .str [102, 40, 101, 41, 32, 61, 32, 40, 49, 32, 43, 32, 50, 32, 43, 32, 51, 41], .str [102, 40, 101, 41, 32, 61, 32, 40, 105, 102, 32, 101, 32, 60, 32, 49, 32, 116, 104, 101, 110, 32, 50, 41], .str [102, 40, 101, 41, 32, 61, 32, 105, 102, 32, 101, 32, 60, 32, 49, 32, 116, 104, 101, 110, 32, 50, 32, 101, 108, 115, 101, 32, 51], .str [102, 40, 101, 41, 32, 61, 32, 40, 105, 102, 32, 49, 32, 60, 32, 50, 32, 116, 104, 101, 110, 32, 50, 32, 101, 108, 115, 101, 32, 51, 41], .str [102, 40, 101, 41, 32, 61, 32, 40, 105, 102, 32, 101, 32, 60, 32, 101, 32, 116, 104, 101, 110, 32, 50, 32, 101, 108, 115, 101, 32, 51, 41], .str [102, 40, 101, 41, 32, 61, 32, 40, 105, 102, 32, 101, 32, 60, 32, 49, 48, 48, 49, 32, 116, 104, 101, 110, 32, 50, 32, 101, 108, 115, 101, 32, 51, 41], .str [102, 40, 101, 41, 32, 61, 32, 40, 105, 102, 32, 101, 32, 109, 111, 100, 32, 49, 32, 61, 32, 48, 32, 116, 104, 101, 110, 32, 50, 32, 101, 108, 115, 101, 32, 51, 41], .str [102, 40, 101, 41, 32, 61, 32, 40, 105, 102, 32, 101, 32, 109, 111, 100, 32, 55, 32, 61, 32, 48, 32, 116, 104, 101, 110, 32, 50, 32, 101, 108, 115, 101, 32, 51, 41], .str [102, 40, 101, 41, 32, 61, 32, 40, 105, 102, 32, 101, 32, 109, 111, 100, 32, 51, 32, 61, 32, 51, 32, 116, 104, 101, 110, 32, 50, 32, 101, 108, 115, 101, 32, 51, 41], .str [102, 40, 101, 41, 32, 61, 32, 103, 40, 101, 41], .str [102, 40, 101, 41, 32, 61, 32, 102, 40, 41], .str [102, 40, 101, 41, 32, 61, 32, 102, 40, 49, 48, 48, 49, 41], .str [102, 40, 101, 41, 32, 61, 32, 102, 40, 101, 32, 43, 32, 54, 41], .str [102, 40, 101, 41, 32, 61, 32, 102, 40, 101, 32, 43, 32, 48, 41], .str [102, 40, 101, 41, 32, 61, 32, 102, 40, 101, 32, 124, 41]], .lst [.str [102, 40, 101, 41, 32, 61, 32, 102, 40, 101, 32, 124, 32, 49, 41], .str [102, 40, 101, 32, 124, 32, 97, 41, 32, 61, 32, 102, 40, 101, 41], .str [102, 40, 101, 32, 124, 32, 97, 41, 32, 61, 32, 102, 40, 101, 32, 124, 32, 97, 44, 32, 97, 41], .str [102, 40, 101, 32, 124, 32, 97, 41, 32, 61, 32, 102, 40, 97, 32, 124, 32, 97, 41], .str [102, 40, 101, 41, 32, 61, 32, 48, 49]], .lst [.str [], .str [32], .str [102], .str [102, 40, 101, 41], .str [102, 40, 101, 41, 32, 61], .str [102, 40, 101, 41, 32, 61, 32, 49, 59], .str [102, 40, 101, 41, 32, 61, 32, 49, 59, 32, 102, 40, 101, 41, 32, 61, 32, 50], .str [102, 40, 97, 41, 32, 61, 32, 49], .str [102, 40, 101, 124, 41, 32, 61, 32, 49], .str [102, 40, 101, 32, 124, 32, 98, 41, 32, 61, 32, 98], .str [102, 40, 101, 32, 124, 32, 97, 44, 32, 99, 41, 32, 61, 32, 97], .str [102, 40, 101, 32, 124, 32, 97, 44, 32, 97, 41, 32, 61, 32, 97], .str [102, 40, 101, 32, 124, 32, 97, 44, 41, 32, 61, 32, 97], .str [102, 40, 101, 41, 32, 61, 32, 97], .str [102, 40, 101, 41, 32, 61, 32, 40, 49, 32, 43, 32, 50], .str [102, 40, 101, 41, 32, 61, 32, 49, 32, 43, 32, 50], .str [102, 40, 101, 41, 32, 61, 32, 40, 49, 41], .str [102, 40, 101, 41, 32, 61, 32, 40, 49, 32, 47, 32, 50, 41], .str [102, 40, 101, 41, 32, 61, 32, 40, 49, 32, 43, 32, 50, 32, 43, 32, 51, 41], .str [102, 40, 101, 41, 32, 61, 32, 40, 105, 102, 32, 101, 32, 60, 32, 49, 32, 116, 104, 101, 110, 32, 50, 41], .str [102, 40, 101, 41, 32, 61, 32, 105, 102, 32, 101, 32, 60, 32, 49, 32, 116, 104, 101, 110, 32, 50, 32, 101, 108, 115, 101, 32, 51], .str [102, 40, 101, 41, 32, 61, 32, 40, 105, 102, 32, 49, 32, 60, 32, 50, 32, 116, 104, 101, 110, 32, 50, 32, 101, 108, 115, 101, 32, 51, 41], .str [102, 40, 101, 41, 32, 61, 32, 40, 105, 102, 32, 101, 32, 60, 32, 101, 32, 116, 104, 101, 110, 32, 50, 32, 101, 108, 115, 101, 32, 51, 41], .str [102, 40, 101, 41, 32, 61, 32, 40, 105, 102, 32, 101, 32, 60, 32, 49, 48, 48, 49, 32, 116, 104, 101, 110, 32, 50, 32, 101, 108, 115, 101, 32, 51, 41], .str [102, 40, 101, 41, 32, 61, 32, 40, 105, 102, 32, 101, 32, 109, 111, 100, 32, 49, 32, 61, 32, 48, 32, 116, 104, 101, 110, 32, 50, 32, 101, 108, 115, 101, 32, 51, 41], .str [102, 40, 101, 41, 32, 61, 32, 40, 105, 102, 32, 101, 32, 109, 111, 100, 32, 55, 32, 61, 32, 48, 32, 116, 104, 101, 110, 32, 50, 32, 101, 108, 115, 101, 32, 51, 41], .str [102, 40, 101, 41, 32, 61, 32, 40, 105, 102, 32, 101, 32, 109, 111, 100, 32, 51, 32, 61, 32, 51, 32, 116, 104, 101, 110, 32, 50, 32, 101, 108, 115, 101, 32, 51, 41], .str [102, 40, 101, 41, 32, 61, 32, 103, 40, 101, 41], .str [102, 40, 101, 41, 32, 61, 32, 102, 40, 41], .str [102, 40, 101, 41, 32, 61, 32, 102, 40, 49, 48, 48, 49, 41], .str [102, 40, 101, 41, 32, 61, 32, 102, 40, 101, 32, 43, 32, 54, 41], .str [102, 40, 101, 41, 32, 61, 32, 102, 40, 101, 32, 43, 32, 48, 41], .str [102, 40, 101, 41, 32, 61, 32, 102, 40, 101, 32, 124, 41], .str [102, 40, 101, 41, 32, 61, 32, 102, 40, 101, 32, 124, 32, 49, 41], .str [102, 40, 101, 32, 124, 32, 97, 41, 32, 61, 32, 102, 40, 101, 41], .str [102, 40, 101, 32, 124, 32, 97, 41, 32, 61, 32, 102, 40, 101, 32, 124, 32, 97, 44, 32, 97, 41], .str [102, 40, 101, 32, 124, 32, 97, 41, 32, 61, 32, 102, 40, 97, 32, 124, 32, 97, 41], .str [102, 40, 101, 41, 32, 61, 32, 48, 49]], .lst [.str [102, 40, 101, 41, 32, 61, 32, 49, 48, 48, 48, 48, 48, 49], .str [102, 40, 101, 41, 32, 61, 32, 49, 120], .str [102, 40, 101, 41, 32, 61, 32, 120, 49]], .lst [.str [], .str [32], .str [102], .str [102, 40, 101, 41], .str [102, 40, 101, 41, 32, 61], .str [102, 40, 101, 41, 32, 61, 32, 49, 59], .str [102, 40, 101, 41, 32, 61, 32, 49, 59, 32, 102, 40, 101, 41, 32, 61, 32, 50], .str [102, 40, 97, 41, 32, 61, 32, 49], .str [102, 40, 101, 124, 41, 32, 61, 32, 49], .str [102, 40, 101, 32, 124, 32, 98, 41, 32, 61, 32, 98], .str [102, 40, 101, 32, 124, 32, 97, 44, 32, 99, 41, 32, 61, 32, 97], .str [102, 40, 101, 32, 124, 32, 97, 44, 32, 97, 41, 32, 61, 32, 97], .str [102, 40, 101, 32, 124, 32, 97, 44, 41, 32, 61, 32, 97], .str [102, 40, 101, 41, 32, 61, 32, 97], .str [102, 40, 101, 41, 32, 61, 32, 40, 49, 32, 43, 32, 50], .str [102, 40, 101, 41, 32, 61, 32, 49, 32, 43, 32, 50], .str [102, 40, 101, 41, 32, 61, 32, 40, 49, 41], .str [102, 40, 101, 41, 32, 61, 32, 40, 49, 32, 47, 32, 50, 41], .str [102, 40, 101, 41, 32, 61, 32, 40, 49, 32, 43, 32, 50, 32, 43, 32, 51, 41], .str [102, 40, 101, 41, 32, 61, 32, 40, 105, 102, 32, 101, 32, 60, 32, 49, 32, 116, 104, 101, 110, 32, 50, 41], .str [102, 40, 101, 41, 32, 61, 32, 105, 102, 32, 101, 32, 60, 32, 49, 32, 116, 104, 101, 110, 32, 50, 32, 101, 108, 115, 101, 32, 51], .str [102, 40, 101, 41, 32, 61, 32, 40, 105, 102, 32, 49, 32, 60, 32, 50, 32, 116, 104, 101, 110, 32, 50, 32, 101, 108, 115, 101, 32, 51, 41], .str [102, 40, 101, 41, 32, 61, 32, 40, 105, 102, 32, 101, 32, 60, 32, 101, 32, 116, 104, 101, 110, 32, 50, 32, 101, 108, 115, 101, 32, 51, 41], .str [102, 40, 101, 41, 32, 61, 32, 40, 105, 102, 32, 101, 32, 60, 32, 49, 48, 48, 49, 32, 116, 104, 101, 110, 32, 50, 32, 101, 108, 115, 101, 32, 51, 41], .str [102, 40, 101, 41, 32, 61, 32, 40, 105, 102, 32, 101, 32, 109, 111, 100, 32, 49, 32, 61, 32, 48, 32, 116, 104, 101, 110, 32, 50, 32, 101, 108, 115, 101, 32, 51, 41], .str [102, 40, 101, 41, 32, 61, 32, 40, 105, 102, 32, 101, 32, 109, 111, 100, 32, 55, 32, 61, 32, 48, 32, 116, 104, 101, 110, 32, 50, 32, 101, 108, 115, 101, 32, 51, 41], .str [102, 40, 101, 41, 32, 61, 32, 40, 105, 102, 32, 101, 32, 109, 111, 100, 32, 51, 32, 61, 32, 51, 32, 116, 104, 101, 110, 32, 50, 32, 101, 108, 115, 101, 32, 51, 41], .str [102, 40, 101, 41, 32, 61, 32, 103, 40, 101, 41], .str [102, 40, 101, 41, 32, 61, 32, 102, 40, 41], .str [102, 40, 101, 41, 32, 61, 32, 102, 40, 49, 48, 48, 49, 41], .str [102, 40, 101, 41, 32, 61, 32, 102, 40, 101, 32, 43, 32, 54, 41], .str [102, 40, 101, 41, 32, 61, 32, 102, 40, 101, 32, 43, 32, 48, 41], .str [102, 40, 101, 41, 32, 61, 32, 102, 40, 101, 32, 124, 41], .str [102, 40, 101, 41, 32, 61, 32, 102, 40, 101, 32, 124, 32, 49, 41], .str [102, 40, 101, 32, 124, 32, 97, 41, 32, 61, 32, 102, 40, 101, 41], .str [102, 40, 101, 32, 124, 32, 97, 41, 32, 61, 32, 102, 40, 101, 32, 124, 32, 97, 44, 32, 97, 41], .str [102, 40, 101, 32, 124, 32, 97, 41, 32, 61, 32, 102, 40, 97, 32, 124, 32, 97, 41], .str [102, 40, 101, 41, 32, 61, 32, 48, 49], .str [102, 40, 101, 41, 32, 61, 32, 49, 48, 48, 48, 48, 48, 49], .str [102, 40, 101, 41, 32, 61, 32, 49, 120], .str [102, 40, 101, 41, 32, 61, 32, 120, 49]], .lst [.str [105, 102, 40, 101, 41, 32, 61, 32, 49], .str [109, 111, 100, 40, 101, 41, 32, 61, 32, 49], .str [97, 40, 101, 41, 32, 61, 32, 49], .str [101, 40, 101, 41, 32, 61, 32, 49], .str [116, 111, 111, 108, 111, 110, 103, 110, 97, 109, 101, 40, 101, 41, 32, 61, 32, 49], .str [70, 40, 101, 41, 32, 61, 32, 49], .str [102, 95, 49, 40, 101, 41, 32, 61, 32, 49]], .lst [.str [], .str [32], .str [102], .str [102, 40, 101, 41], .str [102, 40, 101, 41, 32, 61], .str [102, 40, 101, 41, 32, 61, 32, 49, 59], .str [102, 40, 101, 41, 32, 61, 32, 49, 59, 32, 102, 40, 101, 41, 32, 61, 32, 50], .str [102, 40, 97, 41, 32, 61, 32, 49], .str [102, 40, 101, 124, 41, 32, 61, 32, 49], .str [102, 40, 101, 32, 124, 32, 98, 41, 32, 61, 32, 98], .str [102, 40, 101, 32, 124, 32, 97, 44, 32, 99, 41, 32, 61, 32, 97], .str [102, 40, 101, 32, 124, 32, 97, 44, 32, 97, 41, 32, 61, 32, 97], .str [102, 40, 101, 32, 124, 32, 97, 44, 41, 32, 61, 32, 97], .str [102, 40, 101, 41, 32, 61, 32, 97], .str [102, 40, 101, 41, 32, 61, 32, 40, 49, 32, 43, 32, 50], .str [102, 40, 101, 41, 32, 61, 32, 49, 32, 43, 32, 50], .str [102, 40, 101, 41, 32, 61, 32, 40, 49, 41], .str [102, 40, 101, 41, 32, 61, 32, 40, 49, 32, 47, 32, 50, 41], .str [102, 40, 101, 41, 32, 61, 32, 40, 49, 32, 43, 32, 50, 32, 43, 32, 51, 41], .str [102, 40, 101, 41, 32, 61, 32, 40, 105, 102, 32, 101, 32, 60, 32, 49, 32, 116, 104, 101, 110, 32, 50, 41], .str [102, 40, 101, 41, 32, 61, 32, 105, 102, 32, 101, 32, 60, 32, 49, 32, 116, 104, 101, 110, 32, 50, 32, 101, 108, 115, 101, 32, 51], .str [102, 40, 101, 41, 32, 61, 32, 40, 105, 102, 32, 49, 32, 60, 32, 50, 32, 116, 104, 101, 110, 32, 50, 32, 101, 108, 115, 101, 32, 51, 41], .str [102, 40, 101, 41, 32, 61, 32, 40, 105, 102, 32, 101, 32, 60, 32, 101, 32, 116, 104, 101, 110, 32, 50, 32, 101, 108, 115, 101, 32, 51, 41], .str [102, 40, 101, 41, 32, 61, 32, 40, 105, 102, 32, 101, 32, 60, 32, 49, 48, 48, 49, 32, 116, 104, 101, 110, 32, 50, 32, 101, 108, 115, 101, 32, 51, 41], .str [102, 40, 101, 41, 32, 61, 32, 40, 105, 102, 32, 101, 32, 109, 111, 100, 32, 49, 32, 61, 32, 48, 32, 116, 104, 101, 110, 32, 50, 32, 101, 108, 115, 101, 32, 51, 41], .str [102, 40, 101, 41, 32, 61, 32, 40, 105, 102, 32, 101, 32, 109, 111, 100, 32, 55, 32, 61, 32, 48, 32, 116, 104, 101, 110, 32, 50, 32, 101, 108, 115, 101, 32, 51, 41], .str [102, 40, 101, 41, 32, 61, 32, 40, 105, 102, 32, 101, 32, 109, 111, 100, 32, 51, 32, 61, 32, 51, 32, 116, 104, 101, 110, 32, 50, 32, 101, 108, 115, 101, 32, 51, 41], .str [102, 40, 101, 41, 32, 61, 32, 103, 40, 101, 41], .str [102, 40, 101, 41, 32, 61, 32, 102, 40, 41], .str [102, 40, 101, 41, 32, 61, 32, 102, 40, 49, 48, 48, 49, 41], .str [102, 40, 101, 41, 32, 61, 32, 102, 40, 101, 32, 43, 32, 54, 41], .str [102, 40, 101, 41, 32, 61, 32, 102, 40, 101, 32, 43, 32, 48, 41], .str [102, 40, 101, 41, 32, 61, 32, 102, 40, 101, 32, 124, 41], .str [102, 40, 101, 41, 32, 61, 32, 102, 40, 101, 32, 124, 32, 49, 41], .str [102, 40, 101, 32, 124, 32, 97, 41, 32, 61, 32, 102, 40, 101, 41], .str [102, 40, 101, 32, 124, 32, 97, 41, 32, 61, 32, 102, 40, 101, 32, 124, 32, 97, 44, 32, 97, 41], .str [102, 40, 101, 32, 124, 32, 97, 41, 32, 61, 32, 102, 40, 97, 32, 124, 32, 97, 41], .str [102, 40, 101, 41, 32, 61, 32, 48, 49], .str [102, 40, 101, 41, 32, 61, 32, 49, 48, 48, 48, 48, 48, 49], .str [102, 40, 101, 41, 32, 61, 32, 49, 120], .str [102, 40, 101, 41, 32, 61, 32, 120, 49], .str [105, 102, 40, 101, 41, 32, 61, 32, 49], .str [109, 111, 100, 40, 101, 41, 32, 61, 32, 49], .str [97, 40, 101, 41, 32, 61, 32, 49], .str [101, 40, 101, 41, 32, 61, 32, 49], .str [116, 111, 111, 108, 111, 110, 103, 110, 97, 109, 101, 40, 101, 41, 32, 61, 32, 49], .str [70, 40, 101, 41, 32, 61, 32, 49], .str [102, 95, 49, 40, 101, 41, 32, 61, 32, 49]], .lst [.str [102, 40, 101, 41, 32, 61, 32, 40, 97, 32, 43, 32, 49, 41], .str [102, 40, 101, 41, 32, 61, 61, 32, 49], .str [102, 40, 101, 41, 32, 61, 32, 49, 32, 102], .str [102, 40, 101, 32, 124, 32, 97, 44, 32, 98, 44, 32, 99, 44, 32, 100, 44, 32, 101, 41, 32, 61, 32, 49], .str [102, 40, 101, 32, 124, 32, 97, 44, 32, 98, 44, 32, 99, 44, 32, 100, 44, 32, 97, 41, 32, 61, 32, 49], .str [102, 40, 101, 41, 32, 61, 32, 45, 49]], .lst [.str [], .str [32], .str [102], .str [102, 40, 101, 41], .str [102, 40, 101, 41, 32, 61], .str [102, 40, 101, 41, 32, 61, 32, 49, 59], .str [102, 40, 101, 41, 32, 61, 32, 49, 59, 32, 102, 40, 101, 41, 32, 61, 32, 50], .str [102, 40, 97, 41, 32, 61, 32, 49], .str [102, 40, 101, 124, 41, 32, 61, 32, 49], .str [102, 40, 101, 32, 124, 32, 98, 41, 32, 61, 32, 98], .str [102, 40, 101, 32, 124, 32, 97, 44, 32, 99, 41, 32, 61, 32, 97], .str [102, 40, 101, 32, 124, 32, 97, 44, 32, 97, 41, 32, 61, 32, 97], .str [102, 40, 101, 32, 124, 32, 97, 44, 41, 32, 61, 32, 97], .str [102, 40, 101, 41, 32, 61, 32, 97], .str [102, 40, 101, 41, 32, 61, 32, 40, 49, 32, 43, 32, 50], .str [102, 40, 101, 41, 32, 61, 32, 49, 32, 43, 32, 50], .str [102, 40, 101, 41, 32, 61, 32, 40, 49, 41], .str [102, 40, 101, 41, 32, 61, 32, 40, 49, 32, 47, 32, 50, 41], .str [102, 40, 101, 41, 32, 61, 32, 40, 49, 32, 43, 32, 50, 32, 43, 32, 51, 41], .str [102, 40, 101, 41, 32, 61, 32, 40, 105, 102, 32, 101, 32, 60, 32, 49, 32, 116, 104, 101, 110, 32, 50, 41], .str [102, 40, 101, 41, 32, 61, 32, 105, 102, 32, 101, 32, 60, 32, 49, 32, 116, 104, 101, 110, 32, 50, 32, 101, 108, 115, 101, 32, 51], .str [102, 40, 101, 41, 32, 61, 32, 40, 105, 102, 32, 49, 32, 60, 32, 50, 32, 116, 104, 101, 110, 32, 50, 32, 101, 108, 115, 101, 32, 51, 41], .str [102, 40, 101, 41, 32, 61, 32, 40, 105, 102, 32, 101, 32, 60, 32, 101, 32, 116, 104, 101, 110, 32, 50, 32, 101, 108, 115, 101, 32, 51, 41], .str [102, 40, 101, 41, 32, 61, 32, 40, 105, 102, 32, 101, 32, 60, 32, 49, 48, 48, 49, 32, 116, 104, 101, 110, 32, 50, 32, 101, 108, 115, 101, 32, 51, 41], .str [102, 40, 101, 41, 32, 61, 32, 40, 105, 102, 32, 101, 32, 109, 111, 100, 32, 49, 32, 61, 32, 48, 32, 116, 104, 101, 110, 32, 50, 32, 101, 108, 115, 101, 32, 51, 41], .str [102, 40, 101, 41, 32, 61, 32, 40, 105, 102, 32, 101, 32, 109, 111, 100, 32, 55, 32, 61, 32, 48, 32, 116, 104, 101, 110, 32, 50, 32, 101, 108, 115, 101, 32, 51, 41], .str [102, 40, 101, 41, 32, 61, 32, 40, 105, 102, 32, 101, 32, 109, 111, 100, 32, 51, 32, 61, 32, 51, 32, 116, 104, 101, 110, 32, 50, 32, 101, 108, 115, 101, 32, 51, 41], .str [102, 40, 101, 41, 32, 61, 32, 103, 40, 101, 41], .str [102, 40, 101, 41, 32, 61, 32, 102, 40, 41], .str [102, 40, 101, 41, 32, 61, 32, 102, 40, 49, 48, 48, 49, 41], .str [102, 40, 101, 41, 32, 61, 32, 102, 40, 101, 32, 43, 32, 54, 41], .str [102, 40, 101, 41, 32, 61, 32, 102, 40, 101, 32, 43, 32, 48, 41], .str [102, 40, 101, 41, 32, 61, 32, 102, 40, 101, 32, 124, 41], .str [102, 40, 101, 41, 32, 61, 32, 102, 40, 101, 32, 124, 32, 49, 41], .str [102, 40, 101, 32, 124, 32, 97, 41, 32, 61, 32, 102, 40, 101, 41], .str [102, 40, 101, 32, 124, 32, 97, 41, 32, 61, 32, 102, 40, 101, 32, 124, 32, 97, 44, 32, 97, 41], .str [102, 40, 101, 32, 124, 32, 97, 41, 32, 61, 32, 102, 40, 97, 32, 124, 32, 97, 41], .str [102, 40, 101, 41, 32, 61, 32, 48, 49], .str [102, 40, 101, 41, 32, 61, 32, 49, 48, 48, 48, 48, 48, 49], .str [102, 40, 101, 41, 32, 61, 32, 49, 120], .str [102, 40, 101, 41, 32, 61, 32, 120, 49], .str [105, 102, 40, 101, 41, 32, 61, 32, 49], .str [109, 111, 100, 40, 101, 41, 32, 61, 32, 49], .str [97, 40, 101, 41, 32, 61, 32, 49], .str [101, 40, 101, 41, 32, 61, 32, 49], .str [116, 111, 111, 108, 111, 110, 103, 110, 97, 109, 101, 40, 101, 41, 32, 61, 32, 49], .str [70, 40, 101, 41, 32, 61, 32, 49], .str [102, 95, 49, 40, 101, 41, 32, 61, 32, 49], .str [102, 40, 101, 41, 32, 61, 32, 40, 97, 32, 43, 32, 49, 41], .str [102, 40, 101, 41, 32, 61, 61, 32, 49], .str [102, 40, 101, 41, 32, 61, 32, 49, 32, 102], .str [102, 40, 101, 32, 124, 32, 97, 44, 32, 98, 44, 32, 99, 44, 32, 100, 44, 32, 101, 41, 32, 61, 32, 49], .str [102, 40, 101, 32, 124, 32, 97, 44, 32, 98, 44, 32, 99, 44, 32, 100, 44, 32, 97, 41, 32, 61, 32, 49], .str [102, 40, 101, 41, 32, 61, 32, 45, 49]], .lst [.str [102, 40, 101, 41, 32, 61, 32, 40, 105, 102, 97, 32, 60, 32, 49, 32, 116, 104, 101, 110, 32, 49, 32, 101, 108, 115, 101, 32, 50, 41]], .lst [.str [], .str [32], .str [102], .str [102, 40, 101, 41], .str [102, 40, 101, 41, 32, 61], .str [102, 40, 101, 41, 32, 61, 32, 49, 59], .str [102, 40, 101, 41, 32, 61, 32, 49, 59, 32, 102, 40, 101, 41, 32, 61, 32, 50], .str [102, 40, 97, 41, 32, 61, 32, 49], .str [102, 40, 101, 124, 41, 32, 61, 32, 49], .str [102, 40, 101, 32, 124, 32, 98, 41, 32, 61, 32, 98], .str [102, 40, 101, 32, 124, 32, 97, 44, 32, 99, 41, 32, 61, 32, 97], .str [102, 40, 101, 32, 124, 32, 97, 44, 32, 97, 41, 32, 61, 32, 97], .str [102, 40, 101, 32, 124, 32, 97, 44, 41, 32, 61, 32, 97], .str [102, 40, 101, 41, 32, 61, 32, 97], .str [102, 40, 101, 41, 32, 61, 32, 40, 49, 32, 43, 32, 50], .str [102, 40, 101, 41, 32, 61, 32, 49, 32, 43, 32, 50], .str [102, 40, 101, 41, 32, 61, 32, 40, 49, 41], .str [102, 40, 101, 41, 32, 61, 32, 40, 49, 32, 47, 32, 50, 41], .str [102, 40, 101, 41, 32, 61, 32, 40, 49, 32, 43, 32, 50, 32, 43, 32, 51, 41], .str [102, 40, 101, 41, 32, 61, 32, 40, 105, 102, 32, 101, 32, 60, 32, 49, 32, 116, 104, 101, 110, 32, 50, 41], .str [102, 40, 101, 41, 32, 61, 32, 105, 102, 32, 101, 32, 60, 32, 49, 32, 116, 104, 101, 110, 32, 50, 32, 101, 108, 115, 101, 32, 51], .str [102, 40, 101, 41, 32, 61, 32, 40, 105, 102, 32, 49, 32, 60, 32, 50, 32, 116, 104, 101, 110, 32, 50, 32, 101, 108, 115, 101, 32, 51, 41], .str [102, 40, 101, 41, 32, 61, 32, 40, 105, 102, 32, 101, 32, 60, 32, 101, 32, 116, 104, 101, 110, 32, 50, 32, 101, 108, 115, 101, 32, 51, 41], .str [102, 40, 101, 41, 32, 61, 32, 40, 105, 102, 32, 101, 32, 60, 32, 49, 48, 48, 49, 32, 116, 104, 101, 110, 32, 50, 32, 101, 108, 115, 101, 32, 51, 41], .str [102, 40, 101, 41, 32, 61, 32, 40, 105, 102, 32, 101, 32, 109, 111, 100, 32, 49, 32, 61, 32, 48, 32, 116, 104, 101, 110, 32, 50, 32, 101, 108, 115, 101, 32, 51, 41], .str [102, 40, 101, 41, 32, 61, 32, 40, 105, 102, 32, 101, 32, 109, 111, 100, 32, 55, 32, 61, 32, 48, 32, 116, 104, 101, 110, 32, 50, 32, 101, 108, 115, 101, 32, 51, 41], .str [102, 40, 101, 41, 32, 61, 32, 40, 105, 102, 32, 101, 32, 109, 111, 100, 32, 51, 32, 61, 32, 51, 32, 116, 104, 101, 110, 32, 50, 32, 101, 108, 115, 101, 32, 51, 41], .str [102, 40, 101, 41, 32, 61, 32, 103, 40, 101, 41], .str [102, 40, 101, 41, 32, 61, 32, 102, 40, 41], .str [102, 40, 101, 41, 32, 61, 32, 102, 40, 49, 48, 48, 49, 41], .str [102, 40, 101, 41, 32, 61, 32, 102, 40, 101, 32, 43, 32, 54, 41], .str [102, 40, 101, 41, 32, 61, 32, 102, 40, 101, 32, 43, 32, 48, 41], .str [102, 40, 101, 41, 32, 61, 32, 102, 40, 101, 32, 124, 41], .str [102, 40, 101, 41, 32, 61, 32, 102, 40, 101, 32, 124, 32, 49, 41], .str [102, 40, 101, 32, 124, 32, 97, 41, 32, 61, 32, 102, 40, 101, 41], .str [102, 40, 101, 32, 124, 32, 97, 41, 32, 61, 32, 102, 40, 101, 32, 124, 32, 97, 44, 32, 97, 41], .str [102, 40, 101, 32, 124, 32, 97, 41, 32, 61, 32, 102, 40, 97, 32, 124, 32, 97, 41], .str [102, 40, 101, 41, 32, 61, 32, 48, 49], .str [102, 40, 101, 41, 32, 61, 32, 49, 48, 48, 48, 48, 48, 49], .str [102, 40, 101, 41, 32, 61, 32, 49, 120], .str [102, 40, 101, 41, 32, 61, 32, 120, 49], .str [105, 102, 40, 101, 41, 32, 61, 32, 49], .str [109, 111, 100, 40, 101, 41, 32, 61, 32, 49], .str [97, 40, 101, 41, 32, 61, 32, 49], .str [101, 40, 101, 41, 32, 61, 32, 49], .str [116, 111, 111, 108, 111, 110, 103, 110, 97, 109, 101, 40, 101, 41, 32, 61, 32, 49], .str [70, 40, 101, 41, 32, 61, 32, 49], .str [102, 95, 49, 40, 101, 41, 32, 61, 32, 49], .str [102, 40, 101, 41, 32, 61, 32, 40, 97, 32, 43, 32, 49, 41], .str [102, 40, 101, 41, 32, 61, 61, 32, 49], .str [102, 40, 101, 41, 32, 61, 32, 49, 32, 102], .str [102, 40, 101, 32, 124, 32, 97, 44, 32, 98, 44, 32, 99, 44, 32, 100, 44, 32, 101, 41, 32, 61, 32, 49], .str [102, 40, 101, 32, 124, 32, 97, 44, 32, 98, 44, 32, 99, 44, 32, 100, 44, 32, 97, 41, 32, 61, 32, 49], .str [102, 40, 101, 41, 32, 61, 32, 45, 49], .str [102, 40, 101, 41, 32, 61, 32, 40, 105, 102, 97, 32, 60, 32, 49, 32, 116, 104, 101, 110, 32, 49, 32, 101, 108, 115, 101, 32, 50, 41]], .lst [.str [102, 40, 101, 41, 61, 49], .str [102, 40, 101, 124, 97, 41, 61, 97], .str [102, 40, 101, 32, 124, 32, 97, 44, 32, 98, 44, 32, 99, 44, 32, 100, 41, 32, 61, 32, 100], .str [102, 40, 101, 41, 32, 61, 32, 40, 49, 32, 43, 32, 50, 41], .str [102, 40, 101, 41, 32, 61, 32, 40, 105, 102, 32, 101, 32, 60, 32, 49, 48, 48, 48, 32, 116, 104, 101, 110, 32, 50, 32, 101, 108, 115, 101, 32, 51, 41]], .lst [.str [102, 40, 101, 41, 32, 61, 32, 40, 105, 102, 32, 101, 32, 109, 111, 100, 32, 54, 32, 61, 32, 53, 32, 116, 104, 101, 110, 32, 50, 32, 101, 108, 115, 101, 32, 51, 41], .str [102, 40, 101, 32, 124, 32, 97, 41, 32, 61, 32, 40, 105, 102, 32, 101, 32, 60, 32, 97, 32, 116, 104, 101, 110, 32, 50, 32, 101, 108, 115, 101, 32, 51, 41]], .lst [.str [102, 40, 101, 41, 61, 49], .str [102, 40, 101, 124, 97, 41, 61, 97], .str [102, 40, 101, 32, 124, 32, 97, 44, 32, 98, 44, 32, 99, 44, 32, 100, 41, 32, 61, 32, 100], .str [102, 40, 101, 41, 32, 61, 32, 40, 49, 32, 43, 32, 50, 41], .str [102, 40, 101, 41, 32, 61, 32, 40, 105, 102, 32, 101, 32, 60, 32, 49, 48, 48, 48, 32, 116, 104, 101, 110, 32, 50, 32, 101, 108, 115, 101, 32, 51, 41], .str [102, 40, 101, 41, 32, 61, 32, 40, 105, 102, 32, 101, 32, 109, 111, 100, 32, 54, 32, 61, 32, 53, 32, 116, 104, 101, 110, 32, 50, 32, 101, 108, 115, 101, 32, 51, 41], .str [102, 40, 101, 32, 124, 32, 97, 41, 32, 61, 32, 40, 105, 102, 32, 101, 32, 60, 32, 97, 32, 116, 104, 101, 110, 32, 50, 32, 101, 108, 115, 101, 32, 51, 41]], .lst [.str [102, 40, 101, 32, 124, 32, 97, 41, 32, 61, 32, 40, 105, 102, 32, 97, 32, 60, 32, 101, 32, 116, 104, 101, 110, 32, 50, 32, 101, 108, 115, 101, 32, 51, 41], .str [102, 40, 101, 41, 32, 61, 32, 102, 40, 101, 41], .str [102, 40, 101, 41, 32, 61, 32, 102, 40, 48, 41], .str [102, 40, 101, 41, 32, 61, 32, 102, 40, 101, 32, 43, 32, 53, 41], .str [102, 40, 101, 41, 32, 61, 32, 102, 40, 101, 32, 45, 32, 53, 41]], .lst [.str [102, 40, 101, 41, 61, 49], .str [102, 40, 101, 124, 97, 41, 61, 97], .str [102, 40, 101, 32, 124, 32, 97, 44, 32, 98, 44, 32, 99, 44, 32, 100, 41, 32, 61, 32, 100], .str [102, 40, 101, 41, 32, 61, 32, 40, 49, 32, 43, 32, 50, 41], .str [102, 40, 101, 41, 32, 61, 32, 40, 105, 102, 32, 101, 32, 60, 32, 49, 48, 48, 48, 32, 116, 104, 101, 110, 32, 50, 32, 101, 108, 115, 101, 32, 51, 41], .str [102, 40, 101, 41, 32, 61, 32, 40, 105, 102, 32, 101, 32, 109, 111, 100, 32, 54, 32, 61, 32, 53, 32, 116, 104, 101, 110, 32, 50, 32, 101, 108, 115, 101, 32, 51, 41], .str [102, 40, 101, 32, 124, 32, 97, 41, 32, 61, 32, 40, 105, 102, 32, 101, 32, 60, 32, 97, 32, 116, 104, 101, 110, 32, 50, 32, 101, 108, 115, 101, 32, 51, 41], .str [102, 40, 101, 32, 124, 32, 97, 41, 32, 61, 32, 40, 105, 102, 32, 97, 32, 60, 32, 101, 32, 116, 104, 101, 110, 32, 50, 32, 101, 108, 115, 101, 32, 51, 41], .str [102, 40, 101, 41, 32, 61, 32, 102, 40, 101, 41], .str [102, 40, 101, 41, 32, 61, 32, 102, 40, 48, 41], .str [102, 40, 101, 41, 32, 61, 32, 102, 40, 101, 32, 43, 32, 53, 41], .str [102, 40, 101, 41, 32, 61, 32, 102, 40, 101, 32, 45, 32, 53, 41]], .lst [.str [120, 40, 101, 41, 32, 61, 32, 49, 48, 48, 48, 48, 48, 48, 59, 32, 121, 40, 101, 41, 32, 61, 32, 120, 40, 49, 48, 48, 48, 41]], .lst [.str [102, 40, 101, 41, 61, 49], .str [102, 40, 101, 124, 97, 41, 61, 97], .str [102, 40, 101, 32, 124, 32, 97, 44, 32, 98, 44, 32, 99, 44, 32, 100, 41, 32, 61, 32, 100], .str [102, 40, 101, 41, 32, 61, 32, 40, 49, 32, 43, 32, 50, 41], .str [102, 40, 101, 41, 32, 61, 32, 40, 105, 102, 32, 101, 32, 60, 32, 49, 48, 48, 48, 32, 116, 104, 101, 110, 32, 50, 32, 101, 108, 115, 101, 32, 51, 41], .str [102, 40, 101, 41, 32, 61, 32, 40, 105, 102, 32, 101, 32, 109, 111, 100, 32, 54, 32, 61, 32, 53, 32, 116, 104, 101, 110, 32, 50, 32, 101, 108, 115, 101, 32, 51, 41], .str [102, 40, 101, 32, 124, 32, 97, 41, 32, 61, 32, 40, 105, 102, 32, 101, 32, 60, 32, 97, 32, 116, 104, 101, 110, 32, 50, 32, 101, 108, 115, 101, 32, 51, 41], .str [102, 40, 101, 32, 124, 32, 97, 41, 32, 61, 32, 40, 105, 102, 32, 97, 32, 60, 32, 101, 32, 116, 104, 101, 110, 32, 50, 32, 101, 108, 115, 101, 32, 51, 41], .str [102, 40, 101, 41, 32, 61, 32, 102, 40, 101, 41], .str [102, 40, 101, 41, 32, 61, 32, 102, 40, 48, 41], .str [102, 40, 101, 41, 32, 61, 32, 102, 40, 101, 32, 43, 32, 53, 41], .str [102, 40, 101, 41, 32, 61, 32, 102, 40, 101, 32, 45, 32, 53, 41], .str [120, 40, 101, 41, 32, 61, 32, 49, 48, 48, 48, 48, 48, 48, 59, 32, 121, 40, 101, 41, 32, 61, 32, 120, 40, 49, 48, 48, 48, 41]], .lst [.str [102, 95, 49, 40, 41, 32, 61, 32, 97], .str [102, 95, 49, 40, 101, 41, 32, 61, 32, 49], .str [102, 40, 97, 41, 32, 61, 32, 97], .str [102, 95, 48, 49, 40, 41, 32, 61, 32, 49], .str [102, 95, 40, 41, 32, 61, 32, 49], .str [95, 49, 40, 41, 32, 61, 32, 49], .str [102, 95, 49, 40, 41, 32, 61, 32, 101]], .lst [.str [102, 95, 49, 40, 41, 32, 61, 32, 40, 105, 102, 32, 101, 32, 60, 32, 49, 32, 116, 104, 101, 110, 32, 50, 32, 101, 108, 115, 101, 32, 51, 41], .str [102, 95, 49, 40, 41, 32, 61, 32, 102, 95, 50, 40, 41], .str [102, 95, 49, 40, 41, 32, 61, 32, 102, 95, 49, 40, 49, 41], .str [102, 95, 49, 40, 97, 41, 32, 61, 32, 102, 95, 49, 40, 41], .str [102, 95, 49, 40, 41, 32, 61, 32, 49, 59, 32, 102, 95, 49, 40, 41, 32, 61, 32, 50]], .lst [.str [102, 95, 49, 40, 41, 32, 61, 32, 97], .str [102, 95, 49, 40, 101, 41, 32, 61, 32, 49], .str [102, 40, 97, 41, 32, 61, 32, 97], .str [102, 95, 48, 49, 40, 41, 32, 61, 32, 49], .str [102, 95, 40, 41, 32, 61, 32, 49], .str [95, 49, 40, 41, 32, 61, 32, 49], .str [102, 95, 49, 40, 41, 32, 61, 32, 101], .str [102, 95, 49, 40, 41, 32, 61, 32, 40, 105, 102, 32, 101, 32, 60, 32, 49, 32, 116, 104, 101, 110, 32, 50, 32, 101, 108, 115, 101, 32, 51, 41], .str [102, 95, 49, 40, 41, 32, 61, 32, 102, 95, 50, 40, 41], .str [102, 95, 49, 40, 41, 32, 61, 32, 102, 95, 49, 40, 49, 41], .str [102, 95, 49, 40, 97, 41, 32, 61, 32, 102, 95, 49, 40, 41], .str [102, 95, 49, 40, 41, 32, 61, 32, 49, 59, 32, 102, 95, 49, 40, 41, 32, 61, 32, 50]], .lst [.str [102, 95, 49, 32, 40, 41, 32, 61, 32], .str [102, 95, 49, 48, 48, 48, 48, 48, 48, 49, 40, 41, 32, 61, 32, 49], .str [102, 95, 49, 40, 41, 32, 61, 32, 40, 105, 102, 32, 49, 32, 109, 111, 100, 32, 50, 32, 61, 32, 49, 32, 116, 104, 101, 110, 32, 49, 32, 101, 108, 115, 101, 32, 50, 41], .str [102, 95, 49, 120, 40, 41, 32, 61, 32, 49], .str [102, 95, 49, 40, 98, 41, 32, 61, 32, 98]], .lst [.str [102, 95, 49, 40, 41, 32, 61, 32, 97], .str [102, 95, 49, 40, 101, 41, 32, 61, 32, 49], .str [102, 40, 97, 41, 32, 61, 32, 97], .str [102, 95, 48, 49, 40, 41, 32, 61, 32, 49], .str [102, 95, 40, 41, 32, 61, 32, 49], .str [95, 49, 40, 41, 32, 61, 32, 49], .str [102, 95, 49, 40, 41, 32, 61, 32, 101], .str [102, 95, 49, 40, 41, 32, 61, 32, 40, 105, 102, 32, 101, 32, 60, 32, 49, 32, 116, 104, 101, 110, 32, 50, 32, 101, 108, 115, 101, 32, 51, 41], .str [102, 95, 49, 40, 41, 32, 61, 32, 102, 95, 50, 40, 41], .str [102, 95, 49, 40, 41, 32, 61, 32, 102, 95, 49, 40, 49, 41], .str [102, 95, 49, 40, 97, 41, 32, 61, 32, 102, 95, 49, 40, 41], .str [102, 95, 49, 40, 41, 32, 61, 32, 49, 59, 32, 102, 95, 49, 40, 41, 32, 61, 32, 50], .str [102, 95, 49, 32, 40, 41, 32, 61, 32], .str [102, 95, 49, 48, 48, 48, 48, 48, 48, 49, 40, 41, 32, 61, 32, 49], .str [102, 95, 49, 40, 41, 32, 61, 32, 40, 105, 102, 32, 49, 32, 109, 111, 100, 32, 50, 32, 61, 32, 49, 32, 116, 104, 101, 110, 32, 49, 32, 101, 108, 115, 101, 32, 50, 41], .str [102, 95, 49, 120, 40, 41, 32, 61, 32, 49], .str [102, 95, 49, 40, 98, 41, 32, 61, 32, 98]], .lst [.str [97, 95, 49, 40, 41, 32, 61, 32, 49]], .lst [.str [102, 95, 49, 40, 41, 32, 61, 32, 97], .str [102, 95, 49, 40, 101, 41, 32, 61, 32, 49], .str [102, 40, 97, 41, 32, 61, 32, 97], .str [102, 95, 48, 49, 40, 41, 32, 61, 32, 49], .str [102, 95, 40, 41, 32, 61, 32, 49], .str [95, 49, 40, 41, 32, 61, 32, 49], .str [102, 95, 49, 40, 41, 32, 61, 32, 101], .str [102, 95, 49, 40, 41, 32, 61, 32, 40, 105, 102, 32, 101, 32, 60, 32, 49, 32, 116, 104, 101, 110, 32, 50, 32, 101, 108, 115, 101, 32, 51, 41], .str [102, 95, 49, 40, 41, 32, 61, 32, 102, 95, 50, 40, 41], .str [102, 95, 49, 40, 41, 32, 61, 32, 102, 95, 49, 40, 49, 41], .str [102, 95, 49, 40, 97, 41, 32, 61, 32, 102, 95, 49, 40, 41], .str [102, 95, 49, 40, 41, 32, 61, 32, 49, 59, 32, 102, 95, 49, 40, 41, 32, 61, 32, 50], .str [102, 95, 49, 32, 40, 41, 32, 61, 32], .str [102, 95, 49, 48, 48, 48, 48, 48, 48, 49, 40, 41, 32, 61, 32, 49], .str [102, 95, 49, 40, 41, 32, 61, 32, 40, 105, 102, 32, 49, 32, 109, 111, 100, 32, 50, 32, 61, 32, 49, 32, 116, 104, 101, 110, 32, 49, 32, 101, 108, 115, 101, 32, 50, 41], .str [102, 95, 49, 120, 40, 41, 32, 61, 32, 49], .str [102, 95, 49, 40, 98, 41, 32, 61, 32, 98], .str [97, 95, 49, 40, 41, 32, 61, 32, 49]], .lst [.str [102, 95, 48, 40, 41, 61, 49], .str [102, 95, 49, 48, 48, 48, 48, 48, 48, 48, 40, 97, 44, 98, 41, 61, 40, 97, 45, 98, 41], .str [102, 95, 49, 40, 41, 61, 40, 105, 102, 32, 49, 60, 50, 32, 116, 104, 101, 110, 32, 51, 32, 101, 108, 115, 101, 32, 102, 95, 49, 40, 41, 41], .str [102, 95, 49, 40, 41, 61, 49, 48, 48, 48, 48, 48, 48, 48, 48, 48, 48, 48, 48, 48, 48, 48, 48, 48, 48, 48, 48, 48, 48, 48, 48, 48, 48, 48, 48, 48, 48], .str [103, 95, 50, 40, 97, 41, 61, 103, 95, 50, 40, 40, 97, 42, 103, 95, 50, 40, 97, 41, 41, 41]]]
def E_6 (sp : List Nat) : En := [none, none, some (.str sp), some (.ob 38), some (.str [97, 95, 49, 40, 41, 32, 61, 32, 49]), some (.ob 39), none, some (.str [120, 40, 101, 41, 61, 49, 48, 48, 48, 48, 48, 48, 59, 121, 40, 101, 41, 61, 120, 40, 49, 48, 48, 48, 41]), none]
def T_7 : List D := [.str [102, 95, 48, 40, 41, 61, 49], .str [102, 95, 49, 48, 48, 48, 48, 48, 48, 48, 40, 97, 44, 98, 41, 61, 40, 97, 45, 98, 41], .str [102, 95, 49, 40, 41, 61, 40, 105, 102, 32, 49, 60, 50, 32, 116, 104, 101, 110, 32, 51, 32, 101, 108, 115, 101, 32, 102, 95, 49, 40, 41, 41], .str [102, 95, 49, 40, 41, 61, 49, 48, 48, 48, 48, 48, 48, 48, 48, 48, 48, 48, 48, 48, 48, 48, 48, 48, 48, 48, 48, 48, 48, 48, 48, 48, 48, 48, 48, 48, 48], .str [103, 95, 50, 40, 97, 41, 61, 103, 95, 50, 40, 40, 97, 42, 103, 95, 50, 40, 97, 41, 41, 41]]
def E_7 (sp : List Nat) : En := envAt nx4 T_7 (E_6 sp) 5
def chk_7 (sp : List Nat) (k : Nat) : Bool := turnB (lb_25 (fsN 60)) nx4 T_7 (E_6 sp) S_6 k
def en1 (sp : List Nat) : En := [none, none, some (.str sp), none, none, none, none, none, none]
end Kv

/-! Printed by pr2.py: evaluations. -/
namespace Kv
theorem rn_0_0 : sameB (runL [l_0 (fsN 60), l_1 (fsN 60), l_2 (fsN 60), l_3 (fsN 60), l_4 (fsN 60), l_5 (fsN 60), l_6 (fsN 60), l_7 (fsN 60), l_8 (fsN 60), l_9 (fsN 60), l_10 (fsN 60), l_11 (fsN 60), l_12 (fsN 60)] (en1 []) []) (E_0 []) S_0 = true := by decide +kernel
theorem ck_1_0_0 : chk_1 [] 0 = true := by decide +kernel
theorem ck_1_0_1 : chk_1 [] 1 = true := by decide +kernel
theorem ck_1_0_2 : chk_1 [] 2 = true := by decide +kernel
theorem ck_1_0_3 : chk_1 [] 3 = true := by decide +kernel
theorem ck_1_0_4 : chk_1 [] 4 = true := by decide +kernel
theorem ck_1_0_5 : chk_1 [] 5 = true := by decide +kernel
theorem ck_1_0_6 : chk_1 [] 6 = true := by decide +kernel
theorem ck_1_0_7 : chk_1 [] 7 = true := by decide +kernel
theorem ck_1_0_8 : chk_1 [] 8 = true := by decide +kernel
theorem ck_1_0_9 : chk_1 [] 9 = true := by decide +kernel
theorem ck_1_0_10 : chk_1 [] 10 = true := by decide +kernel
theorem ck_1_0_11 : chk_1 [] 11 = true := by decide +kernel
theorem ck_1_0_12 : chk_1 [] 12 = true := by decide +kernel
theorem ck_1_0_13 : chk_1 [] 13 = true := by decide +kernel
theorem ck_1_0_14 : chk_1 [] 14 = true := by decide +kernel
theorem ck_1_0_15 : chk_1 [] 15 = true := by decide +kernel
theorem ck_1_0_16 : chk_1 [] 16 = true := by decide +kernel
theorem ck_1_0_17 : chk_1 [] 17 = true := by decide +kernel
theorem ck_1_0_18 : chk_1 [] 18 = true := by decide +kernel
theorem ck_1_0_19 : chk_1 [] 19 = true := by decide +kernel
theorem ck_1_0_20 : chk_1 [] 20 = true := by decide +kernel
theorem ck_1_0_21 : chk_1 [] 21 = true := by decide +kernel
theorem ck_1_0_22 : chk_1 [] 22 = true := by decide +kernel
theorem ck_1_0_23 : chk_1 [] 23 = true := by decide +kernel
theorem ck_1_0_24 : chk_1 [] 24 = true := by decide +kernel
theorem ck_1_0_25 : chk_1 [] 25 = true := by decide +kernel
theorem ck_1_0_26 : chk_1 [] 26 = true := by decide +kernel
theorem ck_1_0_27 : chk_1 [] 27 = true := by decide +kernel
theorem ck_1_0_28 : chk_1 [] 28 = true := by decide +kernel
theorem ck_1_0_29 : chk_1 [] 29 = true := by decide +kernel
theorem ck_1_0_30 : chk_1 [] 30 = true := by decide +kernel
theorem ck_1_0_31 : chk_1 [] 31 = true := by decide +kernel
theorem ck_1_0_32 : chk_1 [] 32 = true := by decide +kernel
theorem ck_1_0_33 : chk_1 [] 33 = true := by decide +kernel
theorem ck_1_0_34 : chk_1 [] 34 = true := by decide +kernel
theorem ck_1_0_35 : chk_1 [] 35 = true := by decide +kernel
theorem ck_1_0_36 : chk_1 [] 36 = true := by decide +kernel
theorem ck_1_0_37 : chk_1 [] 37 = true := by decide +kernel
theorem ck_1_0_38 : chk_1 [] 38 = true := by decide +kernel
theorem ck_1_0_39 : chk_1 [] 39 = true := by decide +kernel
theorem ck_1_0_40 : chk_1 [] 40 = true := by decide +kernel
theorem ck_1_0_41 : chk_1 [] 41 = true := by decide +kernel
theorem ck_1_0_42 : chk_1 [] 42 = true := by decide +kernel
theorem ck_1_0_43 : chk_1 [] 43 = true := by decide +kernel
theorem ck_1_0_44 : chk_1 [] 44 = true := by decide +kernel
theorem ck_1_0_45 : chk_1 [] 45 = true := by decide +kernel
theorem ck_1_0_46 : chk_1 [] 46 = true := by decide +kernel
theorem ck_1_0_47 : chk_1 [] 47 = true := by decide +kernel
theorem ck_1_0_48 : chk_1 [] 48 = true := by decide +kernel
theorem ck_1_0_49 : chk_1 [] 49 = true := by decide +kernel
theorem ck_1_0_50 : chk_1 [] 50 = true := by decide +kernel
theorem ck_1_0_51 : chk_1 [] 51 = true := by decide +kernel
theorem ck_1_0_52 : chk_1 [] 52 = true := by decide +kernel
theorem ck_1_0_53 : chk_1 [] 53 = true := by decide +kernel
theorem ck_1_0_54 : chk_1 [] 54 = true := by decide +kernel
theorem rn_2_0 : sameB (runL [l_14 (fsN 60), l_15 (fsN 60), l_16 (fsN 60), l_17 (fsN 60)] (E_1 []) S_0) (E_2 []) S_2 = true := by decide +kernel
theorem ck_3_0_0 : chk_3 [] 0 = true := by decide +kernel
theorem ck_3_0_1 : chk_3 [] 1 = true := by decide +kernel
theorem ck_3_0_2 : chk_3 [] 2 = true := by decide +kernel
theorem ck_3_0_3 : chk_3 [] 3 = true := by decide +kernel
theorem ck_3_0_4 : chk_3 [] 4 = true := by decide +kernel
theorem ck_3_0_5 : chk_3 [] 5 = true := by decide +kernel
theorem ck_3_0_6 : chk_3 [] 6 = true := by decide +kernel
theorem ck_3_0_7 : chk_3 [] 7 = true := by decide +kernel
theorem ck_3_0_8 : chk_3 [] 8 = true := by decide +kernel
theorem ck_3_0_9 : chk_3 [] 9 = true := by decide +kernel
theorem ck_3_0_10 : chk_3 [] 10 = true := by decide +kernel
theorem ck_3_0_11 : chk_3 [] 11 = true := by decide +kernel
theorem ck_3_0_12 : chk_3 [] 12 = true := by decide +kernel
theorem rn_4_0 : sameB (runL [l_19 (fsN 60), l_20 (fsN 60), l_21 (fsN 60), l_22 (fsN 60)] (E_3 []) S_2) (E_4 []) S_4 = true := by decide +kernel
theorem ck_5_0_0 : chk_5 [] 0 = true := by decide +kernel
theorem ck_5_0_1 : chk_5 [] 1 = true := by decide +kernel
theorem ck_5_0_2 : chk_5 [] 2 = true := by decide +kernel
theorem ck_5_0_3 : chk_5 [] 3 = true := by decide +kernel
theorem ck_5_0_4 : chk_5 [] 4 = true := by decide +kernel
theorem ck_5_0_5 : chk_5 [] 5 = true := by decide +kernel
theorem ck_5_0_6 : chk_5 [] 6 = true := by decide +kernel
theorem ck_5_0_7 : chk_5 [] 7 = true := by decide +kernel
theorem ck_5_0_8 : chk_5 [] 8 = true := by decide +kernel
theorem ck_5_0_9 : chk_5 [] 9 = true := by decide +kernel
theorem ck_5_0_10 : chk_5 [] 10 = true := by decide +kernel
theorem ck_5_0_11 : chk_5 [] 11 = true := by decide +kernel
theorem ck_5_0_12 : chk_5 [] 12 = true := by decide +kernel
theorem ck_5_0_13 : chk_5 [] 13 = true := by decide +kernel
theorem ck_5_0_14 : chk_5 [] 14 = true := by decide +kernel
theorem ck_5_0_15 : chk_5 [] 15 = true := by decide +kernel
theorem ck_5_0_16 : chk_5 [] 16 = true := by decide +kernel
theorem ck_5_0_17 : chk_5 [] 17 = true := by decide +kernel
theorem rn_6_0 : sameB (runL [l_24 (fsN 60)] (E_5 []) S_4) (E_6 []) S_6 = true := by decide +kernel
theorem ck_7_0_0 : chk_7 [] 0 = true := by decide +kernel
theorem ck_7_0_1 : chk_7 [] 1 = true := by decide +kernel
theorem ck_7_0_2 : chk_7 [] 2 = true := by decide +kernel
theorem ck_7_0_3 : chk_7 [] 3 = true := by decide +kernel
theorem ck_7_0_4 : chk_7 [] 4 = true := by decide +kernel
theorem en_8_0 : okT ((sSeq (l_26 (fsN 60)) (sSeq (l_27 (fsN 60)) sNx)) (E_7 []) S_6) = true := by decide +kernel
end Kv

/-! Printed by pr2.py: evaluations. -/
namespace Kv
theorem rn_0_1 : sameB (runL [l_0 (fsN 60), l_1 (fsN 60), l_2 (fsN 60), l_3 (fsN 60), l_4 (fsN 60), l_5 (fsN 60), l_6 (fsN 60), l_7 (fsN 60), l_8 (fsN 60), l_9 (fsN 60), l_10 (fsN 60), l_11 (fsN 60), l_12 (fsN 60)] (en1 [32]) []) (E_0 [32]) S_0 = true := by decide +kernel
theorem ck_1_1_0 : chk_1 [32] 0 = true := by decide +kernel
theorem ck_1_1_1 : chk_1 [32] 1 = true := by decide +kernel
theorem ck_1_1_2 : chk_1 [32] 2 = true := by decide +kernel
theorem ck_1_1_3 : chk_1 [32] 3 = true := by decide +kernel
theorem ck_1_1_4 : chk_1 [32] 4 = true := by decide +kernel
theorem ck_1_1_5 : chk_1 [32] 5 = true := by decide +kernel
theorem ck_1_1_6 : chk_1 [32] 6 = true := by decide +kernel
theorem ck_1_1_7 : chk_1 [32] 7 = true := by decide +kernel
theorem ck_1_1_8 : chk_1 [32] 8 = true := by decide +kernel
theorem ck_1_1_9 : chk_1 [32] 9 = true := by decide +kernel
theorem ck_1_1_10 : chk_1 [32] 10 = true := by decide +kernel
theorem ck_1_1_11 : chk_1 [32] 11 = true := by decide +kernel
theorem ck_1_1_12 : chk_1 [32] 12 = true := by decide +kernel
theorem ck_1_1_13 : chk_1 [32] 13 = true := by decide +kernel
theorem ck_1_1_14 : chk_1 [32] 14 = true := by decide +kernel
theorem ck_1_1_15 : chk_1 [32] 15 = true := by decide +kernel
theorem ck_1_1_16 : chk_1 [32] 16 = true := by decide +kernel
theorem ck_1_1_17 : chk_1 [32] 17 = true := by decide +kernel
theorem ck_1_1_18 : chk_1 [32] 18 = true := by decide +kernel
theorem ck_1_1_19 : chk_1 [32] 19 = true := by decide +kernel
theorem ck_1_1_20 : chk_1 [32] 20 = true := by decide +kernel
theorem ck_1_1_21 : chk_1 [32] 21 = true := by decide +kernel
theorem ck_1_1_22 : chk_1 [32] 22 = true := by decide +kernel
theorem ck_1_1_23 : chk_1 [32] 23 = true := by decide +kernel
theorem ck_1_1_24 : chk_1 [32] 24 = true := by decide +kernel
theorem ck_1_1_25 : chk_1 [32] 25 = true := by decide +kernel
theorem ck_1_1_26 : chk_1 [32] 26 = true := by decide +kernel
theorem ck_1_1_27 : chk_1 [32] 27 = true := by decide +kernel
theorem ck_1_1_28 : chk_1 [32] 28 = true := by decide +kernel
theorem ck_1_1_29 : chk_1 [32] 29 = true := by decide +kernel
theorem ck_1_1_30 : chk_1 [32] 30 = true := by decide +kernel
theorem ck_1_1_31 : chk_1 [32] 31 = true := by decide +kernel
theorem ck_1_1_32 : chk_1 [32] 32 = true := by decide +kernel
theorem ck_1_1_33 : chk_1 [32] 33 = true := by decide +kernel
theorem ck_1_1_34 : chk_1 [32] 34 = true := by decide +kernel
theorem ck_1_1_35 : chk_1 [32] 35 = true := by decide +kernel
theorem ck_1_1_36 : chk_1 [32] 36 = true := by decide +kernel
theorem ck_1_1_37 : chk_1 [32] 37 = true := by decide +kernel
theorem ck_1_1_38 : chk_1 [32] 38 = true := by decide +kernel
theorem ck_1_1_39 : chk_1 [32] 39 = true := by decide +kernel
theorem ck_1_1_40 : chk_1 [32] 40 = true := by decide +kernel
theorem ck_1_1_41 : chk_1 [32] 41 = true := by decide +kernel
theorem ck_1_1_42 : chk_1 [32] 42 = true := by decide +kernel
theorem ck_1_1_43 : chk_1 [32] 43 = true := by decide +kernel
theorem ck_1_1_44 : chk_1 [32] 44 = true := by decide +kernel
theorem ck_1_1_45 : chk_1 [32] 45 = true := by decide +kernel
theorem ck_1_1_46 : chk_1 [32] 46 = true := by decide +kernel
theorem ck_1_1_47 : chk_1 [32] 47 = true := by decide +kernel
theorem ck_1_1_48 : chk_1 [32] 48 = true := by decide +kernel
theorem ck_1_1_49 : chk_1 [32] 49 = true := by decide +kernel
theorem ck_1_1_50 : chk_1 [32] 50 = true := by decide +kernel
theorem ck_1_1_51 : chk_1 [32] 51 = true := by decide +kernel
theorem ck_1_1_52 : chk_1 [32] 52 = true := by decide +kernel
theorem ck_1_1_53 : chk_1 [32] 53 = true := by decide +kernel
theorem ck_1_1_54 : chk_1 [32] 54 = true := by decide +kernel
theorem rn_2_1 : sameB (runL [l_14 (fsN 60), l_15 (fsN 60), l_16 (fsN 60), l_17 (fsN 60)] (E_1 [32]) S_0) (E_2 [32]) S_2 = true := by decide +kernel
theorem ck_3_1_0 : chk_3 [32] 0 = true := by decide +kernel
theorem ck_3_1_1 : chk_3 [32] 1 = true := by decide +kernel
theorem ck_3_1_2 : chk_3 [32] 2 = true := by decide +kernel
theorem ck_3_1_3 : chk_3 [32] 3 = true := by decide +kernel
theorem ck_3_1_4 : chk_3 [32] 4 = true := by decide +kernel
theorem ck_3_1_5 : chk_3 [32] 5 = true := by decide +kernel
theorem ck_3_1_6 : chk_3 [32] 6 = true := by decide +kernel
theorem ck_3_1_7 : chk_3 [32] 7 = true := by decide +kernel
theorem ck_3_1_8 : chk_3 [32] 8 = true := by decide +kernel
theorem ck_3_1_9 : chk_3 [32] 9 = true := by decide +kernel
theorem ck_3_1_10 : chk_3 [32] 10 = true := by decide +kernel
theorem ck_3_1_11 : chk_3 [32] 11 = true := by decide +kernel
theorem ck_3_1_12 : chk_3 [32] 12 = true := by decide +kernel
theorem rn_4_1 : sameB (runL [l_19 (fsN 60), l_20 (fsN 60), l_21 (fsN 60), l_22 (fsN 60)] (E_3 [32]) S_2) (E_4 [32]) S_4 = true := by decide +kernel
theorem ck_5_1_0 : chk_5 [32] 0 = true := by decide +kernel
theorem ck_5_1_1 : chk_5 [32] 1 = true := by decide +kernel
theorem ck_5_1_2 : chk_5 [32] 2 = true := by decide +kernel
theorem ck_5_1_3 : chk_5 [32] 3 = true := by decide +kernel
theorem ck_5_1_4 : chk_5 [32] 4 = true := by decide +kernel
theorem ck_5_1_5 : chk_5 [32] 5 = true := by decide +kernel
theorem ck_5_1_6 : chk_5 [32] 6 = true := by decide +kernel
theorem ck_5_1_7 : chk_5 [32] 7 = true := by decide +kernel
theorem ck_5_1_8 : chk_5 [32] 8 = true := by decide +kernel
theorem ck_5_1_9 : chk_5 [32] 9 = true := by decide +kernel
theorem ck_5_1_10 : chk_5 [32] 10 = true := by decide +kernel
theorem ck_5_1_11 : chk_5 [32] 11 = true := by decide +kernel
theorem ck_5_1_12 : chk_5 [32] 12 = true := by decide +kernel
theorem ck_5_1_13 : chk_5 [32] 13 = true := by decide +kernel
theorem ck_5_1_14 : chk_5 [32] 14 = true := by decide +kernel
theorem ck_5_1_15 : chk_5 [32] 15 = true := by decide +kernel
theorem ck_5_1_16 : chk_5 [32] 16 = true := by decide +kernel
theorem ck_5_1_17 : chk_5 [32] 17 = true := by decide +kernel
theorem rn_6_1 : sameB (runL [l_24 (fsN 60)] (E_5 [32]) S_4) (E_6 [32]) S_6 = true := by decide +kernel
theorem ck_7_1_0 : chk_7 [32] 0 = true := by decide +kernel
theorem ck_7_1_1 : chk_7 [32] 1 = true := by decide +kernel
theorem ck_7_1_2 : chk_7 [32] 2 = true := by decide +kernel
theorem ck_7_1_3 : chk_7 [32] 3 = true := by decide +kernel
theorem ck_7_1_4 : chk_7 [32] 4 = true := by decide +kernel
theorem en_8_1 : okT ((sSeq (l_26 (fsN 60)) (sSeq (l_27 (fsN 60)) sNx)) (E_7 [32]) S_6) = true := by decide +kernel
end Kv

/-! Printed by pr2.py: evaluations. -/
namespace Kv
theorem rn_0_2 : sameB (runL [l_0 (fsN 60), l_1 (fsN 60), l_2 (fsN 60), l_3 (fsN 60), l_4 (fsN 60), l_5 (fsN 60), l_6 (fsN 60), l_7 (fsN 60), l_8 (fsN 60), l_9 (fsN 60), l_10 (fsN 60), l_11 (fsN 60), l_12 (fsN 60)] (en1 [32, 32, 32]) []) (E_0 [32, 32, 32]) S_0 = true := by decide +kernel
theorem ck_1_2_0 : chk_1 [32, 32, 32] 0 = true := by decide +kernel
theorem ck_1_2_1 : chk_1 [32, 32, 32] 1 = true := by decide +kernel
theorem ck_1_2_2 : chk_1 [32, 32, 32] 2 = true := by decide +kernel
theorem ck_1_2_3 : chk_1 [32, 32, 32] 3 = true := by decide +kernel
theorem ck_1_2_4 : chk_1 [32, 32, 32] 4 = true := by decide +kernel
theorem ck_1_2_5 : chk_1 [32, 32, 32] 5 = true := by decide +kernel
theorem ck_1_2_6 : chk_1 [32, 32, 32] 6 = true := by decide +kernel
theorem ck_1_2_7 : chk_1 [32, 32, 32] 7 = true := by decide +kernel
theorem ck_1_2_8 : chk_1 [32, 32, 32] 8 = true := by decide +kernel
theorem ck_1_2_9 : chk_1 [32, 32, 32] 9 = true := by decide +kernel
theorem ck_1_2_10 : chk_1 [32, 32, 32] 10 = true := by decide +kernel
theorem ck_1_2_11 : chk_1 [32, 32, 32] 11 = true := by decide +kernel
theorem ck_1_2_12 : chk_1 [32, 32, 32] 12 = true := by decide +kernel
theorem ck_1_2_13 : chk_1 [32, 32, 32] 13 = true := by decide +kernel
theorem ck_1_2_14 : chk_1 [32, 32, 32] 14 = true := by decide +kernel
theorem ck_1_2_15 : chk_1 [32, 32, 32] 15 = true := by decide +kernel
theorem ck_1_2_16 : chk_1 [32, 32, 32] 16 = true := by decide +kernel
theorem ck_1_2_17 : chk_1 [32, 32, 32] 17 = true := by decide +kernel
theorem ck_1_2_18 : chk_1 [32, 32, 32] 18 = true := by decide +kernel
theorem ck_1_2_19 : chk_1 [32, 32, 32] 19 = true := by decide +kernel
theorem ck_1_2_20 : chk_1 [32, 32, 32] 20 = true := by decide +kernel
theorem ck_1_2_21 : chk_1 [32, 32, 32] 21 = true := by decide +kernel
theorem ck_1_2_22 : chk_1 [32, 32, 32] 22 = true := by decide +kernel
theorem ck_1_2_23 : chk_1 [32, 32, 32] 23 = true := by decide +kernel
theorem ck_1_2_24 : chk_1 [32, 32, 32] 24 = true := by decide +kernel
theorem ck_1_2_25 : chk_1 [32, 32, 32] 25 = true := by decide +kernel
theorem ck_1_2_26 : chk_1 [32, 32, 32] 26 = true := by decide +kernel
theorem ck_1_2_27 : chk_1 [32, 32, 32] 27 = true := by decide +kernel
theorem ck_1_2_28 : chk_1 [32, 32, 32] 28 = true := by decide +kernel
theorem ck_1_2_29 : chk_1 [32, 32, 32] 29 = true := by decide +kernel
theorem ck_1_2_30 : chk_1 [32, 32, 32] 30 = true := by decide +kernel
theorem ck_1_2_31 : chk_1 [32, 32, 32] 31 = true := by decide +kernel
theorem ck_1_2_32 : chk_1 [32, 32, 32] 32 = true := by decide +kernel
theorem ck_1_2_33 : chk_1 [32, 32, 32] 33 = true := by decide +kernel
theorem ck_1_2_34 : chk_1 [32, 32, 32] 34 = true := by decide +kernel
theorem ck_1_2_35 : chk_1 [32, 32, 32] 35 = true := by decide +kernel
theorem ck_1_2_36 : chk_1 [32, 32, 32] 36 = true := by decide +kernel
theorem ck_1_2_37 : chk_1 [32, 32, 32] 37 = true := by decide +kernel
theorem ck_1_2_38 : chk_1 [32, 32, 32] 38 = true := by decide +kernel
theorem ck_1_2_39 : chk_1 [32, 32, 32] 39 = true := by decide +kernel
theorem ck_1_2_40 : chk_1 [32, 32, 32] 40 = true := by decide +kernel
theorem ck_1_2_41 : chk_1 [32, 32, 32] 41 = true := by decide +kernel
theorem ck_1_2_42 : chk_1 [32, 32, 32] 42 = true := by decide +kernel
theorem ck_1_2_43 : chk_1 [32, 32, 32] 43 = true := by decide +kernel
theorem ck_1_2_44 : chk_1 [32, 32, 32] 44 = true := by decide +kernel
theorem ck_1_2_45 : chk_1 [32, 32, 32] 45 = true := by decide +kernel
theorem ck_1_2_46 : chk_1 [32, 32, 32] 46 = true := by decide +kernel
theorem ck_1_2_47 : chk_1 [32, 32, 32] 47 = true := by decide +kernel
theorem ck_1_2_48 : chk_1 [32, 32, 32] 48 = true := by decide +kernel
theorem ck_1_2_49 : chk_1 [32, 32, 32] 49 = true := by decide +kernel
theorem ck_1_2_50 : chk_1 [32, 32, 32] 50 = true := by decide +kernel
theorem ck_1_2_51 : chk_1 [32, 32, 32] 51 = true := by decide +kernel
theorem ck_1_2_52 : chk_1 [32, 32, 32] 52 = true := by decide +kernel
theorem ck_1_2_53 : chk_1 [32, 32, 32] 53 = true := by decide +kernel
theorem ck_1_2_54 : chk_1 [32, 32, 32] 54 = true := by decide +kernel
theorem rn_2_2 : sameB (runL [l_14 (fsN 60), l_15 (fsN 60), l_16 (fsN 60), l_17 (fsN 60)] (E_1 [32, 32, 32]) S_0) (E_2 [32, 32, 32]) S_2 = true := by decide +kernel
theorem ck_3_2_0 : chk_3 [32, 32, 32] 0 = true := by decide +kernel
theorem ck_3_2_1 : chk_3 [32, 32, 32] 1 = true := by decide +kernel
theorem ck_3_2_2 : chk_3 [32, 32, 32] 2 = true := by decide +kernel
theorem ck_3_2_3 : chk_3 [32, 32, 32] 3 = true := by decide +kernel
theorem ck_3_2_4 : chk_3 [32, 32, 32] 4 = true := by decide +kernel
theorem ck_3_2_5 : chk_3 [32, 32, 32] 5 = true := by decide +kernel
theorem ck_3_2_6 : chk_3 [32, 32, 32] 6 = true := by decide +kernel
theorem ck_3_2_7 : chk_3 [32, 32, 32] 7 = true := by decide +kernel
theorem ck_3_2_8 : chk_3 [32, 32, 32] 8 = true := by decide +kernel
theorem ck_3_2_9 : chk_3 [32, 32, 32] 9 = true := by decide +kernel
theorem ck_3_2_10 : chk_3 [32, 32, 32] 10 = true := by decide +kernel
theorem ck_3_2_11 : chk_3 [32, 32, 32] 11 = true := by decide +kernel
theorem ck_3_2_12 : chk_3 [32, 32, 32] 12 = true := by decide +kernel
theorem rn_4_2 : sameB (runL [l_19 (fsN 60), l_20 (fsN 60), l_21 (fsN 60), l_22 (fsN 60)] (E_3 [32, 32, 32]) S_2) (E_4 [32, 32, 32]) S_4 = true := by decide +kernel
theorem ck_5_2_0 : chk_5 [32, 32, 32] 0 = true := by decide +kernel
theorem ck_5_2_1 : chk_5 [32, 32, 32] 1 = true := by decide +kernel
theorem ck_5_2_2 : chk_5 [32, 32, 32] 2 = true := by decide +kernel
theorem ck_5_2_3 : chk_5 [32, 32, 32] 3 = true := by decide +kernel
theorem ck_5_2_4 : chk_5 [32, 32, 32] 4 = true := by decide +kernel
theorem ck_5_2_5 : chk_5 [32, 32, 32] 5 = true := by decide +kernel
theorem ck_5_2_6 : chk_5 [32, 32, 32] 6 = true := by decide +kernel
theorem ck_5_2_7 : chk_5 [32, 32, 32] 7 = true := by decide +kernel
theorem ck_5_2_8 : chk_5 [32, 32, 32] 8 = true := by decide +kernel
theorem ck_5_2_9 : chk_5 [32, 32, 32] 9 = true := by decide +kernel
theorem ck_5_2_10 : chk_5 [32, 32, 32] 10 = true := by decide +kernel
theorem ck_5_2_11 : chk_5 [32, 32, 32] 11 = true := by decide +kernel
theorem ck_5_2_12 : chk_5 [32, 32, 32] 12 = true := by decide +kernel
theorem ck_5_2_13 : chk_5 [32, 32, 32] 13 = true := by decide +kernel
theorem ck_5_2_14 : chk_5 [32, 32, 32] 14 = true := by decide +kernel
theorem ck_5_2_15 : chk_5 [32, 32, 32] 15 = true := by decide +kernel
theorem ck_5_2_16 : chk_5 [32, 32, 32] 16 = true := by decide +kernel
theorem ck_5_2_17 : chk_5 [32, 32, 32] 17 = true := by decide +kernel
theorem rn_6_2 : sameB (runL [l_24 (fsN 60)] (E_5 [32, 32, 32]) S_4) (E_6 [32, 32, 32]) S_6 = true := by decide +kernel
theorem ck_7_2_0 : chk_7 [32, 32, 32] 0 = true := by decide +kernel
theorem ck_7_2_1 : chk_7 [32, 32, 32] 1 = true := by decide +kernel
theorem ck_7_2_2 : chk_7 [32, 32, 32] 2 = true := by decide +kernel
theorem ck_7_2_3 : chk_7 [32, 32, 32] 3 = true := by decide +kernel
theorem ck_7_2_4 : chk_7 [32, 32, 32] 4 = true := by decide +kernel
theorem en_8_2 : okT ((sSeq (l_26 (fsN 60)) (sSeq (l_27 (fsN 60)) sNx)) (E_7 [32, 32, 32]) S_6) = true := by decide +kernel
end Kv

/-! Printed by pr2.py: the run. -/
namespace Kv
open PySem PySem.Spec PyProof.Rows L2 GenW
theorem run_0 : ∃ S, b_lawR (fsN 60) (en1 []) [] = .rt (.bl true) S := by
  have a1 : allB (chk_1 []) 55 := ⟨ck_1_0_54, ⟨ck_1_0_53, ⟨ck_1_0_52, ⟨ck_1_0_51, ⟨ck_1_0_50, ⟨ck_1_0_49, ⟨ck_1_0_48, ⟨ck_1_0_47, ⟨ck_1_0_46, ⟨ck_1_0_45, ⟨ck_1_0_44, ⟨ck_1_0_43, ⟨ck_1_0_42, ⟨ck_1_0_41, ⟨ck_1_0_40, ⟨ck_1_0_39, ⟨ck_1_0_38, ⟨ck_1_0_37, ⟨ck_1_0_36, ⟨ck_1_0_35, ⟨ck_1_0_34, ⟨ck_1_0_33, ⟨ck_1_0_32, ⟨ck_1_0_31, ⟨ck_1_0_30, ⟨ck_1_0_29, ⟨ck_1_0_28, ⟨ck_1_0_27, ⟨ck_1_0_26, ⟨ck_1_0_25, ⟨ck_1_0_24, ⟨ck_1_0_23, ⟨ck_1_0_22, ⟨ck_1_0_21, ⟨ck_1_0_20, ⟨ck_1_0_19, ⟨ck_1_0_18, ⟨ck_1_0_17, ⟨ck_1_0_16, ⟨ck_1_0_15, ⟨ck_1_0_14, ⟨ck_1_0_13, ⟨ck_1_0_12, ⟨ck_1_0_11, ⟨ck_1_0_10, ⟨ck_1_0_9, ⟨ck_1_0_8, ⟨ck_1_0_7, ⟨ck_1_0_6, ⟨ck_1_0_5, ⟨ck_1_0_4, ⟨ck_1_0_3, ⟨ck_1_0_2, ⟨ck_1_0_1, ⟨ck_1_0_0, trivial⟩⟩⟩⟩⟩⟩⟩⟩⟩⟩⟩⟩⟩⟩⟩⟩⟩⟩⟩⟩⟩⟩⟩⟩⟩⟩⟩⟩⟩⟩⟩⟩⟩⟩⟩⟩⟩⟩⟩⟩⟩⟩⟩⟩⟩⟩⟩⟩⟩⟩⟩⟩⟩⟩⟩
  have f1 : l_13 (fsN 60) (E_0 []) S_0 = .nx (E_1 []) S_0 := sFor_run (j := 24) (v := 3) (ts := T_1) rfl rfl (by decide) (turnB_all a1)
  have a3 : allB (chk_3 []) 13 := ⟨ck_3_0_12, ⟨ck_3_0_11, ⟨ck_3_0_10, ⟨ck_3_0_9, ⟨ck_3_0_8, ⟨ck_3_0_7, ⟨ck_3_0_6, ⟨ck_3_0_5, ⟨ck_3_0_4, ⟨ck_3_0_3, ⟨ck_3_0_2, ⟨ck_3_0_1, ⟨ck_3_0_0, trivial⟩⟩⟩⟩⟩⟩⟩⟩⟩⟩⟩⟩⟩
  have f3 : l_18 (fsN 60) (E_2 []) S_2 = .nx (E_3 []) S_2 := sFor_run (j := 31) (v := 5) (ts := T_3) rfl rfl (by decide) (turnB_all a3)
  have a5 : allB (chk_5 []) 18 := ⟨ck_5_0_17, ⟨ck_5_0_16, ⟨ck_5_0_15, ⟨ck_5_0_14, ⟨ck_5_0_13, ⟨ck_5_0_12, ⟨ck_5_0_11, ⟨ck_5_0_10, ⟨ck_5_0_9, ⟨ck_5_0_8, ⟨ck_5_0_7, ⟨ck_5_0_6, ⟨ck_5_0_5, ⟨ck_5_0_4, ⟨ck_5_0_3, ⟨ck_5_0_2, ⟨ck_5_0_1, ⟨ck_5_0_0, trivial⟩⟩⟩⟩⟩⟩⟩⟩⟩⟩⟩⟩⟩⟩⟩⟩⟩⟩
  have f5 : l_23 (fsN 60) (E_4 []) S_4 = .nx (E_5 []) S_4 := sFor_run (j := 38) (v := 3) (ts := T_5) rfl rfl (by decide) (turnB_all a5)
  have a7 : allB (chk_7 []) 5 := ⟨ck_7_0_4, ⟨ck_7_0_3, ⟨ck_7_0_2, ⟨ck_7_0_1, ⟨ck_7_0_0, trivial⟩⟩⟩⟩⟩
  have f7 : l_25 (fsN 60) (E_6 []) S_6 = .nx (E_7 []) S_6 := sFor_run (j := 39) (v := 5) (ts := T_7) rfl rfl (by decide) (turnB_all a7)
  have e0 : b_lawR (fsN 60) (en1 []) [] = (seqL [l_0 (fsN 60), l_1 (fsN 60), l_2 (fsN 60), l_3 (fsN 60), l_4 (fsN 60), l_5 (fsN 60), l_6 (fsN 60), l_7 (fsN 60), l_8 (fsN 60), l_9 (fsN 60), l_10 (fsN 60), l_11 (fsN 60), l_12 (fsN 60)] (sSeq (l_13 (fsN 60)) (seqL [l_14 (fsN 60), l_15 (fsN 60), l_16 (fsN 60), l_17 (fsN 60)] (sSeq (l_18 (fsN 60)) (seqL [l_19 (fsN 60), l_20 (fsN 60), l_21 (fsN 60), l_22 (fsN 60)] (sSeq (l_23 (fsN 60)) (seqL [l_24 (fsN 60)] (sSeq (l_25 (fsN 60)) ((sSeq (l_26 (fsN 60)) (sSeq (l_27 (fsN 60)) sNx))))))))))) (en1 []) [] := rfl
  rw [e0]
  rw [seqL_run (sameB_ok rn_0_0)]
  rw [seq_nx f1]
  rw [seqL_run (sameB_ok rn_2_0)]
  rw [seq_nx f3]
  rw [seqL_run (sameB_ok rn_4_0)]
  rw [seq_nx f5]
  rw [seqL_run (sameB_ok rn_6_0)]
  rw [seq_nx f7]
  exact okT_ok en_8_0
theorem run_1 : ∃ S, b_lawR (fsN 60) (en1 [32]) [] = .rt (.bl true) S := by
  have a1 : allB (chk_1 [32]) 55 := ⟨ck_1_1_54, ⟨ck_1_1_53, ⟨ck_1_1_52, ⟨ck_1_1_51, ⟨ck_1_1_50, ⟨ck_1_1_49, ⟨ck_1_1_48, ⟨ck_1_1_47, ⟨ck_1_1_46, ⟨ck_1_1_45, ⟨ck_1_1_44, ⟨ck_1_1_43, ⟨ck_1_1_42, ⟨ck_1_1_41, ⟨ck_1_1_40, ⟨ck_1_1_39, ⟨ck_1_1_38, ⟨ck_1_1_37, ⟨ck_1_1_36, ⟨ck_1_1_35, ⟨ck_1_1_34, ⟨ck_1_1_33, ⟨ck_1_1_32, ⟨ck_1_1_31, ⟨ck_1_1_30, ⟨ck_1_1_29, ⟨ck_1_1_28, ⟨ck_1_1_27, ⟨ck_1_1_26, ⟨ck_1_1_25, ⟨ck_1_1_24, ⟨ck_1_1_23, ⟨ck_1_1_22, ⟨ck_1_1_21, ⟨ck_1_1_20, ⟨ck_1_1_19, ⟨ck_1_1_18, ⟨ck_1_1_17, ⟨ck_1_1_16, ⟨ck_1_1_15, ⟨ck_1_1_14, ⟨ck_1_1_13, ⟨ck_1_1_12, ⟨ck_1_1_11, ⟨ck_1_1_10, ⟨ck_1_1_9, ⟨ck_1_1_8, ⟨ck_1_1_7, ⟨ck_1_1_6, ⟨ck_1_1_5, ⟨ck_1_1_4, ⟨ck_1_1_3, ⟨ck_1_1_2, ⟨ck_1_1_1, ⟨ck_1_1_0, trivial⟩⟩⟩⟩⟩⟩⟩⟩⟩⟩⟩⟩⟩⟩⟩⟩⟩⟩⟩⟩⟩⟩⟩⟩⟩⟩⟩⟩⟩⟩⟩⟩⟩⟩⟩⟩⟩⟩⟩⟩⟩⟩⟩⟩⟩⟩⟩⟩⟩⟩⟩⟩⟩⟩⟩
  have f1 : l_13 (fsN 60) (E_0 [32]) S_0 = .nx (E_1 [32]) S_0 := sFor_run (j := 24) (v := 3) (ts := T_1) rfl rfl (by decide) (turnB_all a1)
  have a3 : allB (chk_3 [32]) 13 := ⟨ck_3_1_12, ⟨ck_3_1_11, ⟨ck_3_1_10, ⟨ck_3_1_9, ⟨ck_3_1_8, ⟨ck_3_1_7, ⟨ck_3_1_6, ⟨ck_3_1_5, ⟨ck_3_1_4, ⟨ck_3_1_3, ⟨ck_3_1_2, ⟨ck_3_1_1, ⟨ck_3_1_0, trivial⟩⟩⟩⟩⟩⟩⟩⟩⟩⟩⟩⟩⟩
  have f3 : l_18 (fsN 60) (E_2 [32]) S_2 = .nx (E_3 [32]) S_2 := sFor_run (j := 31) (v := 5) (ts := T_3) rfl rfl (by decide) (turnB_all a3)
  have a5 : allB (chk_5 [32]) 18 := ⟨ck_5_1_17, ⟨ck_5_1_16, ⟨ck_5_1_15, ⟨ck_5_1_14, ⟨ck_5_1_13, ⟨ck_5_1_12, ⟨ck_5_1_11, ⟨ck_5_1_10, ⟨ck_5_1_9, ⟨ck_5_1_8, ⟨ck_5_1_7, ⟨ck_5_1_6, ⟨ck_5_1_5, ⟨ck_5_1_4, ⟨ck_5_1_3, ⟨ck_5_1_2, ⟨ck_5_1_1, ⟨ck_5_1_0, trivial⟩⟩⟩⟩⟩⟩⟩⟩⟩⟩⟩⟩⟩⟩⟩⟩⟩⟩
  have f5 : l_23 (fsN 60) (E_4 [32]) S_4 = .nx (E_5 [32]) S_4 := sFor_run (j := 38) (v := 3) (ts := T_5) rfl rfl (by decide) (turnB_all a5)
  have a7 : allB (chk_7 [32]) 5 := ⟨ck_7_1_4, ⟨ck_7_1_3, ⟨ck_7_1_2, ⟨ck_7_1_1, ⟨ck_7_1_0, trivial⟩⟩⟩⟩⟩
  have f7 : l_25 (fsN 60) (E_6 [32]) S_6 = .nx (E_7 [32]) S_6 := sFor_run (j := 39) (v := 5) (ts := T_7) rfl rfl (by decide) (turnB_all a7)
  have e0 : b_lawR (fsN 60) (en1 [32]) [] = (seqL [l_0 (fsN 60), l_1 (fsN 60), l_2 (fsN 60), l_3 (fsN 60), l_4 (fsN 60), l_5 (fsN 60), l_6 (fsN 60), l_7 (fsN 60), l_8 (fsN 60), l_9 (fsN 60), l_10 (fsN 60), l_11 (fsN 60), l_12 (fsN 60)] (sSeq (l_13 (fsN 60)) (seqL [l_14 (fsN 60), l_15 (fsN 60), l_16 (fsN 60), l_17 (fsN 60)] (sSeq (l_18 (fsN 60)) (seqL [l_19 (fsN 60), l_20 (fsN 60), l_21 (fsN 60), l_22 (fsN 60)] (sSeq (l_23 (fsN 60)) (seqL [l_24 (fsN 60)] (sSeq (l_25 (fsN 60)) ((sSeq (l_26 (fsN 60)) (sSeq (l_27 (fsN 60)) sNx))))))))))) (en1 [32]) [] := rfl
  rw [e0]
  rw [seqL_run (sameB_ok rn_0_1)]
  rw [seq_nx f1]
  rw [seqL_run (sameB_ok rn_2_1)]
  rw [seq_nx f3]
  rw [seqL_run (sameB_ok rn_4_1)]
  rw [seq_nx f5]
  rw [seqL_run (sameB_ok rn_6_1)]
  rw [seq_nx f7]
  exact okT_ok en_8_1
theorem run_2 : ∃ S, b_lawR (fsN 60) (en1 [32, 32, 32]) [] = .rt (.bl true) S := by
  have a1 : allB (chk_1 [32, 32, 32]) 55 := ⟨ck_1_2_54, ⟨ck_1_2_53, ⟨ck_1_2_52, ⟨ck_1_2_51, ⟨ck_1_2_50, ⟨ck_1_2_49, ⟨ck_1_2_48, ⟨ck_1_2_47, ⟨ck_1_2_46, ⟨ck_1_2_45, ⟨ck_1_2_44, ⟨ck_1_2_43, ⟨ck_1_2_42, ⟨ck_1_2_41, ⟨ck_1_2_40, ⟨ck_1_2_39, ⟨ck_1_2_38, ⟨ck_1_2_37, ⟨ck_1_2_36, ⟨ck_1_2_35, ⟨ck_1_2_34, ⟨ck_1_2_33, ⟨ck_1_2_32, ⟨ck_1_2_31, ⟨ck_1_2_30, ⟨ck_1_2_29, ⟨ck_1_2_28, ⟨ck_1_2_27, ⟨ck_1_2_26, ⟨ck_1_2_25, ⟨ck_1_2_24, ⟨ck_1_2_23, ⟨ck_1_2_22, ⟨ck_1_2_21, ⟨ck_1_2_20, ⟨ck_1_2_19, ⟨ck_1_2_18, ⟨ck_1_2_17, ⟨ck_1_2_16, ⟨ck_1_2_15, ⟨ck_1_2_14, ⟨ck_1_2_13, ⟨ck_1_2_12, ⟨ck_1_2_11, ⟨ck_1_2_10, ⟨ck_1_2_9, ⟨ck_1_2_8, ⟨ck_1_2_7, ⟨ck_1_2_6, ⟨ck_1_2_5, ⟨ck_1_2_4, ⟨ck_1_2_3, ⟨ck_1_2_2, ⟨ck_1_2_1, ⟨ck_1_2_0, trivial⟩⟩⟩⟩⟩⟩⟩⟩⟩⟩⟩⟩⟩⟩⟩⟩⟩⟩⟩⟩⟩⟩⟩⟩⟩⟩⟩⟩⟩⟩⟩⟩⟩⟩⟩⟩⟩⟩⟩⟩⟩⟩⟩⟩⟩⟩⟩⟩⟩⟩⟩⟩⟩⟩⟩
  have f1 : l_13 (fsN 60) (E_0 [32, 32, 32]) S_0 = .nx (E_1 [32, 32, 32]) S_0 := sFor_run (j := 24) (v := 3) (ts := T_1) rfl rfl (by decide) (turnB_all a1)
  have a3 : allB (chk_3 [32, 32, 32]) 13 := ⟨ck_3_2_12, ⟨ck_3_2_11, ⟨ck_3_2_10, ⟨ck_3_2_9, ⟨ck_3_2_8, ⟨ck_3_2_7, ⟨ck_3_2_6, ⟨ck_3_2_5, ⟨ck_3_2_4, ⟨ck_3_2_3, ⟨ck_3_2_2, ⟨ck_3_2_1, ⟨ck_3_2_0, trivial⟩⟩⟩⟩⟩⟩⟩⟩⟩⟩⟩⟩⟩
  have f3 : l_18 (fsN 60) (E_2 [32, 32, 32]) S_2 = .nx (E_3 [32, 32, 32]) S_2 := sFor_run (j := 31) (v := 5) (ts := T_3) rfl rfl (by decide) (turnB_all a3)
  have a5 : allB (chk_5 [32, 32, 32]) 18 := ⟨ck_5_2_17, ⟨ck_5_2_16, ⟨ck_5_2_15, ⟨ck_5_2_14, ⟨ck_5_2_13, ⟨ck_5_2_12, ⟨ck_5_2_11, ⟨ck_5_2_10, ⟨ck_5_2_9, ⟨ck_5_2_8, ⟨ck_5_2_7, ⟨ck_5_2_6, ⟨ck_5_2_5, ⟨ck_5_2_4, ⟨ck_5_2_3, ⟨ck_5_2_2, ⟨ck_5_2_1, ⟨ck_5_2_0, trivial⟩⟩⟩⟩⟩⟩⟩⟩⟩⟩⟩⟩⟩⟩⟩⟩⟩⟩
  have f5 : l_23 (fsN 60) (E_4 [32, 32, 32]) S_4 = .nx (E_5 [32, 32, 32]) S_4 := sFor_run (j := 38) (v := 3) (ts := T_5) rfl rfl (by decide) (turnB_all a5)
  have a7 : allB (chk_7 [32, 32, 32]) 5 := ⟨ck_7_2_4, ⟨ck_7_2_3, ⟨ck_7_2_2, ⟨ck_7_2_1, ⟨ck_7_2_0, trivial⟩⟩⟩⟩⟩
  have f7 : l_25 (fsN 60) (E_6 [32, 32, 32]) S_6 = .nx (E_7 [32, 32, 32]) S_6 := sFor_run (j := 39) (v := 5) (ts := T_7) rfl rfl (by decide) (turnB_all a7)
  have e0 : b_lawR (fsN 60) (en1 [32, 32, 32]) [] = (seqL [l_0 (fsN 60), l_1 (fsN 60), l_2 (fsN 60), l_3 (fsN 60), l_4 (fsN 60), l_5 (fsN 60), l_6 (fsN 60), l_7 (fsN 60), l_8 (fsN 60), l_9 (fsN 60), l_10 (fsN 60), l_11 (fsN 60), l_12 (fsN 60)] (sSeq (l_13 (fsN 60)) (seqL [l_14 (fsN 60), l_15 (fsN 60), l_16 (fsN 60), l_17 (fsN 60)] (sSeq (l_18 (fsN 60)) (seqL [l_19 (fsN 60), l_20 (fsN 60), l_21 (fsN 60), l_22 (fsN 60)] (sSeq (l_23 (fsN 60)) (seqL [l_24 (fsN 60)] (sSeq (l_25 (fsN 60)) ((sSeq (l_26 (fsN 60)) (sSeq (l_27 (fsN 60)) sNx))))))))))) (en1 [32, 32, 32]) [] := rfl
  rw [e0]
  rw [seqL_run (sameB_ok rn_0_2)]
  rw [seq_nx f1]
  rw [seqL_run (sameB_ok rn_2_2)]
  rw [seq_nx f3]
  rw [seqL_run (sameB_ok rn_4_2)]
  rw [seq_nx f5]
  rw [seqL_run (sameB_ok rn_6_2)]
  rw [seq_nx f7]
  exact okT_ok en_8_2
end Kv

/-! The law, from the facts. -/
namespace Kv
open PySem PySem.Spec PyProof.Rows L2 GenW
section
variable {P : Program} {w : World} {K : PySem.W.Frag} {mg : Str → Option Value} {base : Heap}
def spLaw (K : PySem.W.Frag) (M : Mo) : Sp := fun vs H Q _ => ∃ (a : Addr) (ns : List Int), vs = [.ref a] ∧ SqL K H a (ns.map V.int) ∧ (∀ P ∈ M.tb, GxR.TabG H P) ∧ LamX.Tabs M.lt H ∧ ∀ H', Q (.bl true) H'
theorem rds_ints {r : List Addr} {H : Hp} : ∀ ns : List Int, RDs K r H (ns.map D.int) (ns.map V.int)
  | [] => rds_nil.mpr rfl
  | n :: ns => rds_cons.mpr ⟨_, _, rfl, rd_int.mpr rfl, rds_ints ns⟩
theorem run_all {s : List Nat} (h : isSpace s) : ∃ S, b_lawR (fsN 60) (en1 s) [] = .rt (.bl true) S := by
  rcases h with e | e | e
  · rw [e]; exact run_0
  · rw [e]; exact run_1
  · rw [e]; exact run_2
theorem law_fn (c : Fc w K mg) (TB : Tb base c) : FnOk P w K mg base (L2.CX P w) 124 c.f_law c.fd_law ["_law_script"] (spLaw K c.M) := by
  have G : Gs P base c 120 (fsN 60) := gs_all c TB 60
  obtain ⟨oc, od, kV, doc, pm, an, ct, osl, e, lk, hcd⟩ := c.F_law.ex
  rw [e]
  rw [e] at lk
  refine fn_of (k := 123) lk hcd sc_law (fun vs H Q E h => ?_) (fun A outer s H vs Q E hr hsp => ?_)
  · obtain ⟨a, ns, rfl, _⟩ := h
    rfl
  · obtain ⟨a, ns, rfl, hS, ht, hl, hq⟩ := hsp
    obtain ⟨t1, p1, q1⟩ := (dv_law1 c TB G (E := E) hr).ex
    obtain ⟨t2, p2, q2⟩ := (dv_law2 c TB G (E := E) hr).ex
    obtain ⟨tR, pR, qR⟩ := (dv_lawR c TB G (E := E) hr).ex
    refine ⟨tSeq t1 (tSeq t2 tR), pss_cons p1 (pss_cons p2 pR), ?_⟩
    have fin : ∀ (s : List Nat) (x : D) (i : Nat) (σ' : L2.St) (H' : Hp) (r' : List Addr) (S' : Sto), isSpace s → RE K r' H' [some x, some (.ob i), some (.str s), none, none, none, none, none, none] σ' → RS K c.M r' S' H' → tR { nx := fun _ H' => Q .non H', rt := Q } σ' H' := fun s x i σ' H' r' S' hs he hr' => by
      refine qR [] [] (en1 s) σ' H' _ ⟨he.len, fun j d z => ?_⟩ ⟨rfl, fun i a o h1 _ => by simp at h1, fun i j a h1 _ => by simp at h1, hr'.tab, hr'.lam⟩ ?_
      · have hj : j = 2 ∧ d = .str s := by
          unfold en1 at z
          match j, z with
          | 0, z => simp at z
          | 1, z => simp at z
          | 2, z => exact ⟨rfl, by simpa using z.symm⟩
          | 3, z => simp at z
          | 4, z => simp at z
          | 5, z => simp at z
          | 6, z => simp at z
          | 7, z => simp at z
          | 8, z => simp at z
          | n + 9, z => simp at z
        obtain ⟨e1, e2⟩ := hj
        subst e1 e2
        obtain ⟨v, h1, h2⟩ := he.at_ 2 (.str s) rfl
        exact ⟨v, h1, rd_str.mpr (rd_str.mp h2)⟩
      · obtain ⟨S2, e⟩ := run_all hs
        show PostS K c.M [] H' _ E (b_lawR (fsN 60) (en1 s) [])
        rw [e]
        intro r2 H2 v g hd hs2
        rw [rd_bl.mp hd]
        exact hq H2
    have go : ∀ (r : List Addr) (S : Sto) (x : D) (i : Nat), RS K c.M r S H → RD K r H x (.ref a) → (∃ e S1 s S2, b_law1 (fsN 60) (en0 x) S = .nx e S1 ∧ b_law2 (fsN 60) e S1 = .nx [some x, some (.ob i), some (.str s), none, none, none, none, none, none] S2 ∧ isSpace s) →
        tSeq t1 (tSeq t2 tR) { nx := fun _ H' => Q .non H', rt := Q } (L2.start ["_law_script", "_law_row", "_law_space", "_law_bad", "_law_text", "_law_good", "_law_value", "_law_words", "_law_told_here"] [.ref a]) H := fun r S x i hs hx ⟨en, S1, s, S2, h1, h2, hsp⟩ => by
      have he : RE K r H (en0 x) (L2.start ["_law_script", "_law_row", "_law_space", "_law_bad", "_law_text", "_law_good", "_law_value", "_law_words", "_law_told_here"] [.ref a]) := re_start (ds := [x]) (nl := 8) (rds_cons.mpr ⟨_, [], rfl, hx, rds_nil.mpr rfl⟩) rfl
      refine q1 r S (en0 x) _ H _ he hs ?_
      show PostS K c.M r H _ E (b_law1 (fsN 60) (en0 x) S)
      rw [h1]
      intro r' H' σ' g he' hs'
      refine q2 r' S1 en σ' H' _ he' hs' ?_
      show PostS K c.M r' H' _ E (b_law2 (fsN 60) en S1)
      rw [h2]
      intro r2 H2 σ2 g2 he2 hs2
      exact fin s x i σ2 H2 r2 S2 hsp he2 hs2
    have rs0 : RS K c.M [] [] H := ⟨rfl, fun i a o h1 _ => by simp at h1, fun i j a h1 _ => by simp at h1, ht, hl⟩
    have fr : FrL K H a (ns.map V.int) → _ := fun f => go [] [] (.kl (ns.map D.int)) 0 rs0 (rd_kl.mpr ⟨a, _, rfl, f, rds_ints ns⟩) (pickA ns)
    rcases hS with (hS | hS) | hS
    · refine go [a] [.lst (ns.map D.int)] (.ob 0) 1 ⟨rfl, fun i b o h1 h2 => ?_, fun i j b h1 h2 => ?_, ht, hl⟩ (rd_mut.mpr ⟨a, rfl, rfl⟩) (pickB ns)
      · match i, h1, h2 with
        | 0, h1, h2 =>
          cases h1
          cases h2
          exact ⟨_, hS, rds_ints ns⟩
        | n + 1, h1, _ => simp at h1
      · match i, j, h1, h2 with
        | 0, 0, _, _ => rfl
        | n + 1, _, h1, _ => simp at h1
        | 0, n + 1, _, h2 => simp at h2
    · exact fr (.inr hS)
    · exact fr (.inl hS)
end
end Kv

/-! Printed by pr3.py: the facts put together. -/
namespace Kv
open PySem PySem.Spec PyProof.Rows L2 GenW
def tabAt (o : Obj) : Option Addr := match o.data with
  | .fields vs => match (vs[11]? : Option Value) with
    | some (Value.ref P) => some P
    | _ => none
  | _ => none
def lstOf (o : Obj) : Option (List (List Nat)) := match o.cls, o.dict, o.data with
  | .type "list", none, .seq its _ => strsV its.toList
  | _, _, _ => none
where strsV : List Value → Option (List (List Nat))
  | [] => some []
  | .str x _ :: r => match strsV r with
    | some l => some (x.cps.toList :: l)
    | none => none
  | _ => none
theorem strsV_ok {K : PySem.W.Frag} {r : List Addr} {H : Hp} : ∀ {us : List Value} {l : List (List Nat)}, lstOf.strsV us = some l → ∃ vs, Vals vs us ∧ RDs K r H (l.map D.str) vs
  | [], l, h => by
    cases h
    exact ⟨[], .nil, rds_nil.mpr rfl⟩
  | u :: us, l, h => by
    unfold lstOf.strsV at h
    split at h
    · rename_i h1; cases h1
    · rename_i x t us' h1
      cases h1
      cases e : lstOf.strsV us with
      | none => rw [e] at h; cases h
      | some l' =>
        rw [e] at h
        cases h
        obtain ⟨vs, h1, h2⟩ := strsV_ok (K := K) (r := r) (H := H) e
        exact ⟨.str x :: vs, .cons ⟨t, rfl⟩ h1, rds_cons.mpr ⟨_, vs, rfl, rd_str.mpr (by rw [← str_eta]), h2⟩⟩
    · cases h
theorem glob_lst {K : PySem.W.Frag} {a : Addr} {ob : Obj} {l : List (List Nat)} {ds : List D} (h : K.lookup a = some ob) (hl : lstOf ob = some l) (hz : Nat.ble l.length 1000 = true) (hd : l.map D.str = ds) : GlobIs K (.kl ds) (.ref a) := by
  subst hd
  refine ⟨.ref a, rfl, fun r H => ?_⟩
  unfold lstOf at hl
  split at hl
  · rename_i its n h1 h2 h3
    obtain ⟨vs, r1, r2⟩ := strsV_ok (K := K) (r := r) (H := H) hl
    have hlen := r1.length
    have hlen2 := r2.length
    rw [List.length_map] at hlen2
    refine rd_kl.mpr ⟨a, vs, rfl, .inl ⟨ob, its, n, h, h1, h2, h3, ?_, r1⟩, r2⟩
    have e : its.size = l.length := by rw [hlen2, hlen]; simp
    rw [e]
    exact Nat.le_trans (Nat.le_of_ble_eq_true hz) (by rw [sizeLine_eq]; decide)
  · cases hl
theorem glob_int {K : PySem.W.Frag} {i : Int} {t : Tok} : GlobIs K (.int i) (.int i t) := ⟨.int i, ⟨t, rfl⟩, fun _ _ => rd_int.mpr rfl⟩
theorem glob_str {K : PySem.W.Frag} {s : List Nat} {t : Tok} : GlobIs K (.str s) (.str ⟨s.toArray⟩ t) := ⟨.str ⟨s.toArray⟩, ⟨t, rfl⟩, fun _ _ => rd_str.mpr rfl⟩
theorem dict_mk {K : PySem.W.Frag} {w : World} {a : Addr} {es : Array DictEntry} {n : Nat} {ks : List Str} {kvs : List (List Nat × List Nat)} (h : K.lookup a = some ⟨.type "dict", none, .dict es n, #[]⟩) (hk : es.toList.map He.keyOf = He.keysIn w.params ks) (hs : (a == sysModules) = false) (hv : es.toList.map kvOf = kvs.map some) : DictIs K w a kvs :=
  ⟨es, n, ⟨h, He.keysLit_of hk, hs⟩, hv⟩
theorem tab_fact {K : PySem.W.Frag} {h : Heap} {mg : Str → Option Value} {q : Program} {x : Str} {f c t : Addr} {oc : Value} {od : Option Addr} {sl : Array (Option Value)} {fd : FuncData} {ob : Obj} (X : K.In h) (TT : TabsOf q mg h) (hr : ((recsOf q).any fun e => e.name == x) = true) (hm : mg x = some (.ref f))
    (l : K.lookup f = some ⟨oc, od, .func fd, sl⟩) (hc : fd.code = .ref c) (hb : K.lookup c = some ob) (ht : tabAt ob = some t) : h.get? t = some { cls := .none, data := .fields #[] } ∧ PySem.W.CodeHd h c t := by
  obtain ⟨o', fd', c', P', g1, g2, g3, g4, g5⟩ := TT x f hr hm
  have e1 := X _ _ l
  rw [g1] at e1
  cases e1
  cases g2
  rw [hc] at g3
  cases g3
  have hd := PySem.W.CodeHd.of g4 g5
  obtain ⟨⟨oc', vc, e1, e2, e3, e4⟩, hP⟩ := g5
  have e5 := X _ _ hb
  rw [e1] at e5
  cases e5
  have e6 : t = P' := by
    unfold tabAt at ht
    rw [e3] at ht
    simp only [e4] at ht
    exact (Option.some.inj ht).symm
  rw [e6]
  exact ⟨hP, hd⟩
/-- what is known of the tables -/
structure TabsC {w : World} {K : PySem.W.Frag} {mg : Str → Option Value} (c : Fc w K mg) (h : Heap) : Prop where
  h_is_name : h.get? c.t_is_name = some { cls := .none, data := .fields #[] } ∧ PySem.W.CodeHd h c.c_is_name c.t_is_name
  z_is_name : K.lookup c.t_is_name = none
  h_is_test : h.get? c.t_is_test = some { cls := .none, data := .fields #[] } ∧ PySem.W.CodeHd h c.c_is_test c.t_is_test
  z_is_test : K.lookup c.t_is_test = none
  h_is_expression : h.get? c.t_is_expression = some { cls := .none, data := .fields #[] } ∧ PySem.W.CodeHd h c.c_is_expression c.t_is_expression
  z_is_expression : K.lookup c.t_is_expression = none
  h_is_all_early : h.get? c.t_is_all_early = some { cls := .none, data := .fields #[] } ∧ PySem.W.CodeHd h c.c_is_all_early c.t_is_all_early
  z_is_all_early : K.lookup c.t_is_all_early = none
  h_nodes_of : h.get? c.t_nodes_of = some { cls := .none, data := .fields #[] } ∧ PySem.W.CodeHd h c.c_nodes_of c.t_nodes_of
  z_nodes_of : K.lookup c.t_nodes_of = none
  h_is_program : h.get? c.t_is_program = some { cls := .none, data := .fields #[] } ∧ PySem.W.CodeHd h c.c_is_program c.t_is_program
  z_is_program : K.lookup c.t_is_program = none
  h_point_of : h.get? c.t_point_of = some { cls := .none, data := .fields #[] } ∧ PySem.W.CodeHd h c.c_point_of c.t_point_of
  z_point_of : K.lookup c.t_point_of = none
  h_is_plain_expression : h.get? c.t_is_plain_expression = some { cls := .none, data := .fields #[] } ∧ PySem.W.CodeHd h c.c_is_plain_expression c.t_is_plain_expression
  z_is_plain_expression : K.lookup c.t_is_plain_expression = none
  h_is_plain : h.get? c.t_is_plain = some { cls := .none, data := .fields #[] } ∧ PySem.W.CodeHd h c.c_is_plain c.t_is_plain
  z_is_plain : K.lookup c.t_is_plain = none
  h_law : h.get? c.tL = some { cls := .none, data := .fields #[] } ∧ PySem.W.CodeHd h c.c_law c.tL
  z_law : K.lookup c.tL = none
theorem all_mk {w : World} {K : PySem.W.Frag} {h : Heap} {mg : Str → Option Value} {q : Program} (X : K.In h) (G : h.Ns mainGlobals mg) (TT : TabsOf q mg h)
    {f_is_in c_is_in : Addr} {oc_is_in kV_is_in dc_is_in pm_is_in ct_is_in : Value} {od_is_in an_is_in : Option Addr} {sl_is_in : Array (Option Value)}
    {f_is_name c_is_name : Addr} {oc_is_name kV_is_name dc_is_name pm_is_name ct_is_name : Value} {od_is_name an_is_name : Option Addr} {sl_is_name : Array (Option Value)}
    {f_is_tuple c_is_tuple : Addr} {oc_is_tuple kV_is_tuple dc_is_tuple pm_is_tuple ct_is_tuple : Value} {od_is_tuple an_is_tuple : Option Addr} {sl_is_tuple : Array (Option Value)}
    {f_is_move c_is_move : Addr} {oc_is_move kV_is_move dc_is_move pm_is_move ct_is_move : Value} {od_is_move an_is_move : Option Addr} {sl_is_move : Array (Option Value)}
    {f_is_test c_is_test : Addr} {oc_is_test kV_is_test dc_is_test pm_is_test ct_is_test : Value} {od_is_test an_is_test : Option Addr} {sl_is_test : Array (Option Value)}
    {f_is_expression c_is_expression : Addr} {oc_is_expression kV_is_expression dc_is_expression pm_is_expression ct_is_expression : Value} {od_is_expression an_is_expression : Option Addr} {sl_is_expression : Array (Option Value)}
    {f_parts_of c_parts_of : Addr} {oc_parts_of kV_parts_of dc_parts_of pm_parts_of ct_parts_of : Value} {od_parts_of an_parts_of : Option Addr} {sl_parts_of : Array (Option Value)}
    {f_is_all_early c_is_all_early : Addr} {oc_is_all_early kV_is_all_early dc_is_all_early pm_is_all_early ct_is_all_early : Value} {od_is_all_early an_is_all_early : Option Addr} {sl_is_all_early : Array (Option Value)}
    {f_nodes_of c_nodes_of : Addr} {oc_nodes_of kV_nodes_of dc_nodes_of pm_nodes_of ct_nodes_of : Value} {od_nodes_of an_nodes_of : Option Addr} {sl_nodes_of : Array (Option Value)}
    {f_calls_of c_calls_of : Addr} {oc_calls_of kV_calls_of dc_calls_of pm_calls_of ct_calls_of : Value} {od_calls_of an_calls_of : Option Addr} {sl_calls_of : Array (Option Value)}
    {f_is_function c_is_function : Addr} {oc_is_function kV_is_function dc_is_function pm_is_function ct_is_function : Value} {od_is_function an_is_function : Option Addr} {sl_is_function : Array (Option Value)}
    {f_is_program c_is_program : Addr} {oc_is_program kV_is_program dc_is_program pm_is_program ct_is_program : Value} {od_is_program an_is_program : Option Addr} {sl_is_program : Array (Option Value)}
    {f_need_program c_need_program : Addr} {oc_need_program kV_need_program dc_need_program pm_need_program ct_need_program : Value} {od_need_program an_need_program : Option Addr} {sl_need_program : Array (Option Value)}
    {f_point_of c_point_of : Addr} {oc_point_of kV_point_of dc_point_of pm_point_of ct_point_of : Value} {od_point_of an_point_of : Option Addr} {sl_point_of : Array (Option Value)}
    {f_is_plain_expression c_is_plain_expression : Addr} {oc_is_plain_expression kV_is_plain_expression dc_is_plain_expression pm_is_plain_expression ct_is_plain_expression : Value} {od_is_plain_expression an_is_plain_expression : Option Addr} {sl_is_plain_expression : Array (Option Value)}
    {f_is_plain_function c_is_plain_function : Addr} {oc_is_plain_function kV_is_plain_function dc_is_plain_function pm_is_plain_function ct_is_plain_function : Value} {od_is_plain_function an_is_plain_function : Option Addr} {sl_is_plain_function : Array (Option Value)}
    {f_is_plain c_is_plain : Addr} {oc_is_plain kV_is_plain dc_is_plain pm_is_plain ct_is_plain : Value} {od_is_plain an_is_plain : Option Addr} {sl_is_plain : Array (Option Value)}
    {f_need_plain c_need_plain : Addr} {oc_need_plain kV_need_plain dc_need_plain pm_need_plain ct_need_plain : Value} {od_need_plain an_need_plain : Option Addr} {sl_need_plain : Array (Option Value)}
    {f_row_end c_row_end : Addr} {oc_row_end kV_row_end dc_row_end pm_row_end ct_row_end : Value} {od_row_end an_row_end : Option Addr} {sl_row_end : Array (Option Value)}
    {f_words_of c_words_of : Addr} {oc_words_of kV_words_of dc_words_of pm_words_of ct_words_of : Value} {od_words_of an_words_of : Option Addr} {sl_words_of : Array (Option Value)}
    {f_m_init c_m_init : Addr} {oc_m_init kV_m_init dc_m_init pm_m_init ct_m_init : Value} {od_m_init an_m_init : Option Addr} {sl_m_init : Array (Option Value)}
    {f_m_look c_m_look : Addr} {oc_m_look kV_m_look dc_m_look pm_m_look ct_m_look : Value} {od_m_look an_m_look : Option Addr} {sl_m_look : Array (Option Value)}
    {f_m_next c_m_next : Addr} {oc_m_next kV_m_next dc_m_next pm_m_next ct_m_next : Value} {od_m_next an_m_next : Option Addr} {sl_m_next : Array (Option Value)}
    {f_m_need c_m_need : Addr} {oc_m_need kV_m_need dc_m_need pm_m_need ct_m_need : Value} {od_m_need an_m_need : Option Addr} {sl_m_need : Array (Option Value)}
    {f_m_number c_m_number : Addr} {oc_m_number kV_m_number dc_m_number pm_m_number ct_m_number : Value} {od_m_number an_m_number : Option Addr} {sl_m_number : Array (Option Value)}
    {f_m_move c_m_move : Addr} {oc_m_move kV_m_move dc_m_move pm_m_move ct_m_move : Value} {od_m_move an_m_move : Option Addr} {sl_m_move : Array (Option Value)}
    {f_m_some c_m_some : Addr} {oc_m_some kV_m_some dc_m_some pm_m_some ct_m_some : Value} {od_m_some an_m_some : Option Addr} {sl_m_some : Array (Option Value)}
    {f_m_call c_m_call : Addr} {oc_m_call kV_m_call dc_m_call pm_m_call ct_m_call : Value} {od_m_call an_m_call : Option Addr} {sl_m_call : Array (Option Value)}
    {f_m_test c_m_test : Addr} {oc_m_test kV_m_test dc_m_test pm_m_test ct_m_test : Value} {od_m_test an_m_test : Option Addr} {sl_m_test : Array (Option Value)}
    {f_m_inside c_m_inside : Addr} {oc_m_inside kV_m_inside dc_m_inside pm_m_inside ct_m_inside : Value} {od_m_inside an_m_inside : Option Addr} {sl_m_inside : Array (Option Value)}
    {f_m_expression c_m_expression : Addr} {oc_m_expression kV_m_expression dc_m_expression pm_m_expression ct_m_expression : Value} {od_m_expression an_m_expression : Option Addr} {sl_m_expression : Array (Option Value)}
    {f_m_function c_m_function : Addr} {oc_m_function kV_m_function dc_m_function pm_m_function ct_m_function : Value} {od_m_function an_m_function : Option Addr} {sl_m_function : Array (Option Value)}
    {f_m_letters c_m_letters : Addr} {oc_m_letters kV_m_letters dc_m_letters pm_m_letters ct_m_letters : Value} {od_m_letters an_m_letters : Option Addr} {sl_m_letters : Array (Option Value)}
    {f_m_functions c_m_functions : Addr} {oc_m_functions kV_m_functions dc_m_functions pm_m_functions ct_m_functions : Value} {od_m_functions an_m_functions : Option Addr} {sl_m_functions : Array (Option Value)}
    {f_read_program c_read_program : Addr} {oc_read_program kV_read_program dc_read_program pm_read_program ct_read_program : Value} {od_read_program an_read_program : Option Addr} {sl_read_program : Array (Option Value)}
    {f_read_plain c_read_plain : Addr} {oc_read_plain kV_read_plain dc_read_plain pm_read_plain ct_read_plain : Value} {od_read_plain an_read_plain : Option Addr} {sl_read_plain : Array (Option Value)}
    {f_write_move c_write_move : Addr} {oc_write_move kV_write_move dc_write_move pm_write_move ct_write_move : Value} {od_write_move an_write_move : Option Addr} {sl_write_move : Array (Option Value)}
    {f_write_test c_write_test : Addr} {oc_write_test kV_write_test dc_write_test pm_write_test ct_write_test : Value} {od_write_test an_write_test : Option Addr} {sl_write_test : Array (Option Value)}
    {f_write_call c_write_call : Addr} {oc_write_call kV_write_call dc_write_call pm_write_call ct_write_call : Value} {od_write_call an_write_call : Option Addr} {sl_write_call : Array (Option Value)}
    {f_write_one c_write_one : Addr} {oc_write_one kV_write_one dc_write_one pm_write_one ct_write_one : Value} {od_write_one an_write_one : Option Addr} {sl_write_one : Array (Option Value)}
    {f_write_program c_write_program : Addr} {oc_write_program kV_write_program dc_write_program pm_write_program ct_write_program : Value} {od_write_program an_write_program : Option Addr} {sl_write_program : Array (Option Value)}
    {f_write_plain c_write_plain : Addr} {oc_write_plain kV_write_plain dc_write_plain pm_write_plain ct_write_plain : Value} {od_write_plain an_write_plain : Option Addr} {sl_write_plain : Array (Option Value)}
    {f__law_taken c__law_taken : Addr} {oc__law_taken kV__law_taken dc__law_taken pm__law_taken ct__law_taken : Value} {od__law_taken an__law_taken : Option Addr} {sl__law_taken : Array (Option Value)}
    {f__law_pick c__law_pick : Addr} {oc__law_pick kV__law_pick dc__law_pick pm__law_pick ct__law_pick : Value} {od__law_pick an__law_pick : Option Addr} {sl__law_pick : Array (Option Value)}
    {f_told c_told : Addr} {oc_told kV_told dc_told pm_told ct_told : Value} {od_told an_told : Option Addr} {sl_told : Array (Option Value)}
    {f_law c_law : Addr} {oc_law kV_law dc_law pm_law ct_law : Value} {od_law an_law : Option Addr} {sl_law : Array (Option Value)}
    {t_is_name : Addr} {ob_is_name : Obj}
    {t_is_test : Addr} {ob_is_test : Obj}
    {t_is_expression : Addr} {ob_is_expression : Obj}
    {t_is_all_early : Addr} {ob_is_all_early : Obj}
    {t_nodes_of : Addr} {ob_nodes_of : Obj}
    {t_is_program : Addr} {ob_is_program : Obj}
    {t_point_of : Addr} {ob_point_of : Obj}
    {t_is_plain_expression : Addr} {ob_is_plain_expression : Obj}
    {t_is_plain : Addr} {ob_is_plain : Obj}
    {tL : Addr} {ob_law : Obj}
    {C cI cN cS : Addr}
    {tk_MOST_NUMBER : Tok}
    {tk_MOST_GIVEN : Tok}
    {tk_MOST_MOVE : Tok}
    {tk_MOST_REST : Tok}
    {tk_MOST_LATES : Tok}
    {tk_MOST_FUNCTIONS : Tok}
    {tk_MOST_NODES : Tok}
    {tk_MOST_LETTERS : Tok}
    {tk_MOST_DEEP : Tok}
    {tk_LETTERS : Tok}
    {la_TAKEN : Addr} {lo_TAKEN : Obj}
    {la_PAIRS : Addr} {lo_PAIRS : Obj}
    {tk_MOST_VALUE : Tok}
    {tk_MOST_EARLY : Tok}
    {tk_MOST_PLAIN : Tok}
    {tk_DIGITS_plains : Tok}
    {tk_DIGITS_reading : Tok}
    {tk_ALONE : Tok}
    {la_LATES_reading : Addr} {lo_LATES_reading : Obj}
    {tk_LATES_texts : Tok}
    {da_KINDS : Addr} {es_KINDS : Array DictEntry} {dn_KINDS : Nat}
    {da_SIGNS : Addr} {es_SIGNS : Array DictEntry} {dn_SIGNS : Nat}
    (aC : PySem.W.nsIn K mainGlobals "Reading" = some (some (.ref C)))
    (a_is_in : PySem.W.nsIn K mainGlobals "is_in" = some (some (.ref f_is_in)))
    (l_is_in : K.lookup f_is_in = some ⟨oc_is_in, od_is_in, .func (PySem.W.fnOf "is_in" "is_in" (defArgs (top 19)) (defBody (top 19)) (defScope (top 19)) .none kV_is_in dc_is_in pm_is_in an_is_in (.ref c_is_in) ct_is_in), sl_is_in⟩)
    (e_is_in : PySem.W.codeIn K (.ref c_is_in) "is_in" = true)
    (k_is_in : PySem.W.keepIn K (.ref f_is_in) = true)
    (a_is_name : PySem.W.nsIn K mainGlobals "is_name" = some (some (.ref f_is_name)))
    (l_is_name : K.lookup f_is_name = some ⟨oc_is_name, od_is_name, .func (PySem.W.fnOf "is_name" "is_name" (defArgs (top 20)) (defBody (top 20)) (defScope (top 20)) .none kV_is_name dc_is_name pm_is_name an_is_name (.ref c_is_name) ct_is_name), sl_is_name⟩)
    (e_is_name : PySem.W.codeIn K (.ref c_is_name) "is_name" = true)
    (k_is_name : PySem.W.keepIn K (.ref f_is_name) = true)
    (a_is_tuple : PySem.W.nsIn K mainGlobals "is_tuple" = some (some (.ref f_is_tuple)))
    (l_is_tuple : K.lookup f_is_tuple = some ⟨oc_is_tuple, od_is_tuple, .func (PySem.W.fnOf "is_tuple" "is_tuple" (defArgs (top 21)) (defBody (top 21)) (defScope (top 21)) .none kV_is_tuple dc_is_tuple pm_is_tuple an_is_tuple (.ref c_is_tuple) ct_is_tuple), sl_is_tuple⟩)
    (e_is_tuple : PySem.W.codeIn K (.ref c_is_tuple) "is_tuple" = true)
    (k_is_tuple : PySem.W.keepIn K (.ref f_is_tuple) = true)
    (a_is_move : PySem.W.nsIn K mainGlobals "is_move" = some (some (.ref f_is_move)))
    (l_is_move : K.lookup f_is_move = some ⟨oc_is_move, od_is_move, .func (PySem.W.fnOf "is_move" "is_move" (defArgs (top 22)) (defBody (top 22)) (defScope (top 22)) .none kV_is_move dc_is_move pm_is_move an_is_move (.ref c_is_move) ct_is_move), sl_is_move⟩)
    (e_is_move : PySem.W.codeIn K (.ref c_is_move) "is_move" = true)
    (k_is_move : PySem.W.keepIn K (.ref f_is_move) = true)
    (a_is_test : PySem.W.nsIn K mainGlobals "is_test" = some (some (.ref f_is_test)))
    (l_is_test : K.lookup f_is_test = some ⟨oc_is_test, od_is_test, .func (PySem.W.fnOf "is_test" "is_test" (defArgs (top 23)) (defBody (top 23)) (defScope (top 23)) .none kV_is_test dc_is_test pm_is_test an_is_test (.ref c_is_test) ct_is_test), sl_is_test⟩)
    (e_is_test : PySem.W.codeIn K (.ref c_is_test) "is_test" = true)
    (k_is_test : PySem.W.keepIn K (.ref f_is_test) = true)
    (a_is_expression : PySem.W.nsIn K mainGlobals "is_expression" = some (some (.ref f_is_expression)))
    (l_is_expression : K.lookup f_is_expression = some ⟨oc_is_expression, od_is_expression, .func (PySem.W.fnOf "is_expression" "is_expression" (defArgs (top 24)) (defBody (top 24)) (defScope (top 24)) .none kV_is_expression dc_is_expression pm_is_expression an_is_expression (.ref c_is_expression) ct_is_expression), sl_is_expression⟩)
    (e_is_expression : PySem.W.codeIn K (.ref c_is_expression) "is_expression" = true)
    (k_is_expression : PySem.W.keepIn K (.ref f_is_expression) = true)
    (a_parts_of : PySem.W.nsIn K mainGlobals "parts_of" = some (some (.ref f_parts_of)))
    (l_parts_of : K.lookup f_parts_of = some ⟨oc_parts_of, od_parts_of, .func (PySem.W.fnOf "parts_of" "parts_of" (defArgs (top 25)) (defBody (top 25)) (defScope (top 25)) .none kV_parts_of dc_parts_of pm_parts_of an_parts_of (.ref c_parts_of) ct_parts_of), sl_parts_of⟩)
    (e_parts_of : PySem.W.codeIn K (.ref c_parts_of) "parts_of" = true)
    (k_parts_of : PySem.W.keepIn K (.ref f_parts_of) = true)
    (a_is_all_early : PySem.W.nsIn K mainGlobals "is_all_early" = some (some (.ref f_is_all_early)))
    (l_is_all_early : K.lookup f_is_all_early = some ⟨oc_is_all_early, od_is_all_early, .func (PySem.W.fnOf "is_all_early" "is_all_early" (defArgs (top 26)) (defBody (top 26)) (defScope (top 26)) .none kV_is_all_early dc_is_all_early pm_is_all_early an_is_all_early (.ref c_is_all_early) ct_is_all_early), sl_is_all_early⟩)
    (e_is_all_early : PySem.W.codeIn K (.ref c_is_all_early) "is_all_early" = true)
    (k_is_all_early : PySem.W.keepIn K (.ref f_is_all_early) = true)
    (a_nodes_of : PySem.W.nsIn K mainGlobals "nodes_of" = some (some (.ref f_nodes_of)))
    (l_nodes_of : K.lookup f_nodes_of = some ⟨oc_nodes_of, od_nodes_of, .func (PySem.W.fnOf "nodes_of" "nodes_of" (defArgs (top 27)) (defBody (top 27)) (defScope (top 27)) .none kV_nodes_of dc_nodes_of pm_nodes_of an_nodes_of (.ref c_nodes_of) ct_nodes_of), sl_nodes_of⟩)
    (e_nodes_of : PySem.W.codeIn K (.ref c_nodes_of) "nodes_of" = true)
    (k_nodes_of : PySem.W.keepIn K (.ref f_nodes_of) = true)
    (a_calls_of : PySem.W.nsIn K mainGlobals "calls_of" = some (some (.ref f_calls_of)))
    (l_calls_of : K.lookup f_calls_of = some ⟨oc_calls_of, od_calls_of, .func (PySem.W.fnOf "calls_of" "calls_of" (defArgs (top 28)) (defBody (top 28)) (defScope (top 28)) .none kV_calls_of dc_calls_of pm_calls_of an_calls_of (.ref c_calls_of) ct_calls_of), sl_calls_of⟩)
    (e_calls_of : PySem.W.codeIn K (.ref c_calls_of) "calls_of" = true)
    (k_calls_of : PySem.W.keepIn K (.ref f_calls_of) = true)
    (a_is_function : PySem.W.nsIn K mainGlobals "is_function" = some (some (.ref f_is_function)))
    (l_is_function : K.lookup f_is_function = some ⟨oc_is_function, od_is_function, .func (PySem.W.fnOf "is_function" "is_function" (defArgs (top 29)) (defBody (top 29)) (defScope (top 29)) .none kV_is_function dc_is_function pm_is_function an_is_function (.ref c_is_function) ct_is_function), sl_is_function⟩)
    (e_is_function : PySem.W.codeIn K (.ref c_is_function) "is_function" = true)
    (k_is_function : PySem.W.keepIn K (.ref f_is_function) = true)
    (a_is_program : PySem.W.nsIn K mainGlobals "is_program" = some (some (.ref f_is_program)))
    (l_is_program : K.lookup f_is_program = some ⟨oc_is_program, od_is_program, .func (PySem.W.fnOf "is_program" "is_program" (defArgs (top 30)) (defBody (top 30)) (defScope (top 30)) .none kV_is_program dc_is_program pm_is_program an_is_program (.ref c_is_program) ct_is_program), sl_is_program⟩)
    (e_is_program : PySem.W.codeIn K (.ref c_is_program) "is_program" = true)
    (k_is_program : PySem.W.keepIn K (.ref f_is_program) = true)
    (a_need_program : PySem.W.nsIn K mainGlobals "need_program" = some (some (.ref f_need_program)))
    (l_need_program : K.lookup f_need_program = some ⟨oc_need_program, od_need_program, .func (PySem.W.fnOf "need_program" "need_program" (defArgs (top 31)) (defBody (top 31)) (defScope (top 31)) .none kV_need_program dc_need_program pm_need_program an_need_program (.ref c_need_program) ct_need_program), sl_need_program⟩)
    (e_need_program : PySem.W.codeIn K (.ref c_need_program) "need_program" = true)
    (k_need_program : PySem.W.keepIn K (.ref f_need_program) = true)
    (a_point_of : PySem.W.nsIn K mainGlobals "point_of" = some (some (.ref f_point_of)))
    (l_point_of : K.lookup f_point_of = some ⟨oc_point_of, od_point_of, .func (PySem.W.fnOf "point_of" "point_of" (defArgs (top 37)) (defBody (top 37)) (defScope (top 37)) .none kV_point_of dc_point_of pm_point_of an_point_of (.ref c_point_of) ct_point_of), sl_point_of⟩)
    (e_point_of : PySem.W.codeIn K (.ref c_point_of) "point_of" = true)
    (k_point_of : PySem.W.keepIn K (.ref f_point_of) = true)
    (a_is_plain_expression : PySem.W.nsIn K mainGlobals "is_plain_expression" = some (some (.ref f_is_plain_expression)))
    (l_is_plain_expression : K.lookup f_is_plain_expression = some ⟨oc_is_plain_expression, od_is_plain_expression, .func (PySem.W.fnOf "is_plain_expression" "is_plain_expression" (defArgs (top 38)) (defBody (top 38)) (defScope (top 38)) .none kV_is_plain_expression dc_is_plain_expression pm_is_plain_expression an_is_plain_expression (.ref c_is_plain_expression) ct_is_plain_expression), sl_is_plain_expression⟩)
    (e_is_plain_expression : PySem.W.codeIn K (.ref c_is_plain_expression) "is_plain_expression" = true)
    (k_is_plain_expression : PySem.W.keepIn K (.ref f_is_plain_expression) = true)
    (a_is_plain_function : PySem.W.nsIn K mainGlobals "is_plain_function" = some (some (.ref f_is_plain_function)))
    (l_is_plain_function : K.lookup f_is_plain_function = some ⟨oc_is_plain_function, od_is_plain_function, .func (PySem.W.fnOf "is_plain_function" "is_plain_function" (defArgs (top 39)) (defBody (top 39)) (defScope (top 39)) .none kV_is_plain_function dc_is_plain_function pm_is_plain_function an_is_plain_function (.ref c_is_plain_function) ct_is_plain_function), sl_is_plain_function⟩)
    (e_is_plain_function : PySem.W.codeIn K (.ref c_is_plain_function) "is_plain_function" = true)
    (k_is_plain_function : PySem.W.keepIn K (.ref f_is_plain_function) = true)
    (a_is_plain : PySem.W.nsIn K mainGlobals "is_plain" = some (some (.ref f_is_plain)))
    (l_is_plain : K.lookup f_is_plain = some ⟨oc_is_plain, od_is_plain, .func (PySem.W.fnOf "is_plain" "is_plain" (defArgs (top 40)) (defBody (top 40)) (defScope (top 40)) .none kV_is_plain dc_is_plain pm_is_plain an_is_plain (.ref c_is_plain) ct_is_plain), sl_is_plain⟩)
    (e_is_plain : PySem.W.codeIn K (.ref c_is_plain) "is_plain" = true)
    (k_is_plain : PySem.W.keepIn K (.ref f_is_plain) = true)
    (a_need_plain : PySem.W.nsIn K mainGlobals "need_plain" = some (some (.ref f_need_plain)))
    (l_need_plain : K.lookup f_need_plain = some ⟨oc_need_plain, od_need_plain, .func (PySem.W.fnOf "need_plain" "need_plain" (defArgs (top 41)) (defBody (top 41)) (defScope (top 41)) .none kV_need_plain dc_need_plain pm_need_plain an_need_plain (.ref c_need_plain) ct_need_plain), sl_need_plain⟩)
    (e_need_plain : PySem.W.codeIn K (.ref c_need_plain) "need_plain" = true)
    (k_need_plain : PySem.W.keepIn K (.ref f_need_plain) = true)
    (a_row_end : PySem.W.nsIn K mainGlobals "row_end" = some (some (.ref f_row_end)))
    (l_row_end : K.lookup f_row_end = some ⟨oc_row_end, od_row_end, .func (PySem.W.fnOf "row_end" "row_end" (defArgs (top 47)) (defBody (top 47)) (defScope (top 47)) .none kV_row_end dc_row_end pm_row_end an_row_end (.ref c_row_end) ct_row_end), sl_row_end⟩)
    (e_row_end : PySem.W.codeIn K (.ref c_row_end) "row_end" = true)
    (k_row_end : PySem.W.keepIn K (.ref f_row_end) = true)
    (a_words_of : PySem.W.nsIn K mainGlobals "words_of" = some (some (.ref f_words_of)))
    (l_words_of : K.lookup f_words_of = some ⟨oc_words_of, od_words_of, .func (PySem.W.fnOf "words_of" "words_of" (defArgs (top 48)) (defBody (top 48)) (defScope (top 48)) .none kV_words_of dc_words_of pm_words_of an_words_of (.ref c_words_of) ct_words_of), sl_words_of⟩)
    (e_words_of : PySem.W.codeIn K (.ref c_words_of) "words_of" = true)
    (k_words_of : PySem.W.keepIn K (.ref f_words_of) = true)
    (a_m_init : PySem.W.findIn K (.ref C) "__init__" = some (some (.ref f_m_init)))
    (i_m_init : PySem.W.isFn K (.ref f_m_init) = true)
    (l_m_init : K.lookup f_m_init = some ⟨oc_m_init, od_m_init, .func (PySem.W.fnOf "__init__" "Reading.__init__" (defArgs (inClass (top 49) 0)) (defBody (inClass (top 49) 0)) (defScope (inClass (top 49) 0)) .none kV_m_init dc_m_init pm_m_init an_m_init (.ref c_m_init) ct_m_init), sl_m_init⟩)
    (e_m_init : PySem.W.codeIn K (.ref c_m_init) "Reading.__init__" = true)
    (k_m_init : PySem.W.keepIn K (.ref f_m_init) = true)
    (a_m_look : PySem.W.findIn K (.ref C) "look" = some (some (.ref f_m_look)))
    (i_m_look : PySem.W.isFn K (.ref f_m_look) = true)
    (l_m_look : K.lookup f_m_look = some ⟨oc_m_look, od_m_look, .func (PySem.W.fnOf "look" "Reading.look" (defArgs (inClass (top 49) 1)) (defBody (inClass (top 49) 1)) (defScope (inClass (top 49) 1)) .none kV_m_look dc_m_look pm_m_look an_m_look (.ref c_m_look) ct_m_look), sl_m_look⟩)
    (e_m_look : PySem.W.codeIn K (.ref c_m_look) "Reading.look" = true)
    (k_m_look : PySem.W.keepIn K (.ref f_m_look) = true)
    (a_m_next : PySem.W.findIn K (.ref C) "next" = some (some (.ref f_m_next)))
    (i_m_next : PySem.W.isFn K (.ref f_m_next) = true)
    (l_m_next : K.lookup f_m_next = some ⟨oc_m_next, od_m_next, .func (PySem.W.fnOf "next" "Reading.next" (defArgs (inClass (top 49) 2)) (defBody (inClass (top 49) 2)) (defScope (inClass (top 49) 2)) .none kV_m_next dc_m_next pm_m_next an_m_next (.ref c_m_next) ct_m_next), sl_m_next⟩)
    (e_m_next : PySem.W.codeIn K (.ref c_m_next) "Reading.next" = true)
    (k_m_next : PySem.W.keepIn K (.ref f_m_next) = true)
    (a_m_need : PySem.W.findIn K (.ref C) "need" = some (some (.ref f_m_need)))
    (i_m_need : PySem.W.isFn K (.ref f_m_need) = true)
    (l_m_need : K.lookup f_m_need = some ⟨oc_m_need, od_m_need, .func (PySem.W.fnOf "need" "Reading.need" (defArgs (inClass (top 49) 3)) (defBody (inClass (top 49) 3)) (defScope (inClass (top 49) 3)) .none kV_m_need dc_m_need pm_m_need an_m_need (.ref c_m_need) ct_m_need), sl_m_need⟩)
    (e_m_need : PySem.W.codeIn K (.ref c_m_need) "Reading.need" = true)
    (k_m_need : PySem.W.keepIn K (.ref f_m_need) = true)
    (a_m_number : PySem.W.findIn K (.ref C) "number" = some (some (.ref f_m_number)))
    (i_m_number : PySem.W.isFn K (.ref f_m_number) = true)
    (l_m_number : K.lookup f_m_number = some ⟨oc_m_number, od_m_number, .func (PySem.W.fnOf "number" "Reading.number" (defArgs (inClass (top 49) 4)) (defBody (inClass (top 49) 4)) (defScope (inClass (top 49) 4)) .none kV_m_number dc_m_number pm_m_number an_m_number (.ref c_m_number) ct_m_number), sl_m_number⟩)
    (e_m_number : PySem.W.codeIn K (.ref c_m_number) "Reading.number" = true)
    (k_m_number : PySem.W.keepIn K (.ref f_m_number) = true)
    (a_m_move : PySem.W.findIn K (.ref C) "move" = some (some (.ref f_m_move)))
    (i_m_move : PySem.W.isFn K (.ref f_m_move) = true)
    (l_m_move : K.lookup f_m_move = some ⟨oc_m_move, od_m_move, .func (PySem.W.fnOf "move" "Reading.move" (defArgs (inClass (top 49) 5)) (defBody (inClass (top 49) 5)) (defScope (inClass (top 49) 5)) .none kV_m_move dc_m_move pm_m_move an_m_move (.ref c_m_move) ct_m_move), sl_m_move⟩)
    (e_m_move : PySem.W.codeIn K (.ref c_m_move) "Reading.move" = true)
    (k_m_move : PySem.W.keepIn K (.ref f_m_move) = true)
    (a_m_some : PySem.W.findIn K (.ref C) "some" = some (some (.ref f_m_some)))
    (i_m_some : PySem.W.isFn K (.ref f_m_some) = true)
    (l_m_some : K.lookup f_m_some = some ⟨oc_m_some, od_m_some, .func (PySem.W.fnOf "some" "Reading.some" (defArgs (inClass (top 49) 6)) (defBody (inClass (top 49) 6)) (defScope (inClass (top 49) 6)) .none kV_m_some dc_m_some pm_m_some an_m_some (.ref c_m_some) ct_m_some), sl_m_some⟩)
    (e_m_some : PySem.W.codeIn K (.ref c_m_some) "Reading.some" = true)
    (k_m_some : PySem.W.keepIn K (.ref f_m_some) = true)
    (a_m_call : PySem.W.findIn K (.ref C) "call" = some (some (.ref f_m_call)))
    (i_m_call : PySem.W.isFn K (.ref f_m_call) = true)
    (l_m_call : K.lookup f_m_call = some ⟨oc_m_call, od_m_call, .func (PySem.W.fnOf "call" "Reading.call" (defArgs (inClass (top 49) 7)) (defBody (inClass (top 49) 7)) (defScope (inClass (top 49) 7)) .none kV_m_call dc_m_call pm_m_call an_m_call (.ref c_m_call) ct_m_call), sl_m_call⟩)
    (e_m_call : PySem.W.codeIn K (.ref c_m_call) "Reading.call" = true)
    (k_m_call : PySem.W.keepIn K (.ref f_m_call) = true)
    (a_m_test : PySem.W.findIn K (.ref C) "test" = some (some (.ref f_m_test)))
    (i_m_test : PySem.W.isFn K (.ref f_m_test) = true)
    (l_m_test : K.lookup f_m_test = some ⟨oc_m_test, od_m_test, .func (PySem.W.fnOf "test" "Reading.test" (defArgs (inClass (top 49) 8)) (defBody (inClass (top 49) 8)) (defScope (inClass (top 49) 8)) .none kV_m_test dc_m_test pm_m_test an_m_test (.ref c_m_test) ct_m_test), sl_m_test⟩)
    (e_m_test : PySem.W.codeIn K (.ref c_m_test) "Reading.test" = true)
    (k_m_test : PySem.W.keepIn K (.ref f_m_test) = true)
    (a_m_inside : PySem.W.findIn K (.ref C) "inside" = some (some (.ref f_m_inside)))
    (i_m_inside : PySem.W.isFn K (.ref f_m_inside) = true)
    (l_m_inside : K.lookup f_m_inside = some ⟨oc_m_inside, od_m_inside, .func (PySem.W.fnOf "inside" "Reading.inside" (defArgs (inClass (top 49) 9)) (defBody (inClass (top 49) 9)) (defScope (inClass (top 49) 9)) .none kV_m_inside dc_m_inside pm_m_inside an_m_inside (.ref c_m_inside) ct_m_inside), sl_m_inside⟩)
    (e_m_inside : PySem.W.codeIn K (.ref c_m_inside) "Reading.inside" = true)
    (k_m_inside : PySem.W.keepIn K (.ref f_m_inside) = true)
    (a_m_expression : PySem.W.findIn K (.ref C) "expression" = some (some (.ref f_m_expression)))
    (i_m_expression : PySem.W.isFn K (.ref f_m_expression) = true)
    (l_m_expression : K.lookup f_m_expression = some ⟨oc_m_expression, od_m_expression, .func (PySem.W.fnOf "expression" "Reading.expression" (defArgs (inClass (top 49) 10)) (defBody (inClass (top 49) 10)) (defScope (inClass (top 49) 10)) .none kV_m_expression dc_m_expression pm_m_expression an_m_expression (.ref c_m_expression) ct_m_expression), sl_m_expression⟩)
    (e_m_expression : PySem.W.codeIn K (.ref c_m_expression) "Reading.expression" = true)
    (k_m_expression : PySem.W.keepIn K (.ref f_m_expression) = true)
    (a_m_function : PySem.W.findIn K (.ref C) "function" = some (some (.ref f_m_function)))
    (i_m_function : PySem.W.isFn K (.ref f_m_function) = true)
    (l_m_function : K.lookup f_m_function = some ⟨oc_m_function, od_m_function, .func (PySem.W.fnOf "function" "Reading.function" (defArgs (inClass (top 49) 11)) (defBody (inClass (top 49) 11)) (defScope (inClass (top 49) 11)) .none kV_m_function dc_m_function pm_m_function an_m_function (.ref c_m_function) ct_m_function), sl_m_function⟩)
    (e_m_function : PySem.W.codeIn K (.ref c_m_function) "Reading.function" = true)
    (k_m_function : PySem.W.keepIn K (.ref f_m_function) = true)
    (a_m_letters : PySem.W.findIn K (.ref C) "letters" = some (some (.ref f_m_letters)))
    (i_m_letters : PySem.W.isFn K (.ref f_m_letters) = true)
    (l_m_letters : K.lookup f_m_letters = some ⟨oc_m_letters, od_m_letters, .func (PySem.W.fnOf "letters" "Reading.letters" (defArgs (inClass (top 49) 12)) (defBody (inClass (top 49) 12)) (defScope (inClass (top 49) 12)) .none kV_m_letters dc_m_letters pm_m_letters an_m_letters (.ref c_m_letters) ct_m_letters), sl_m_letters⟩)
    (e_m_letters : PySem.W.codeIn K (.ref c_m_letters) "Reading.letters" = true)
    (k_m_letters : PySem.W.keepIn K (.ref f_m_letters) = true)
    (a_m_functions : PySem.W.findIn K (.ref C) "functions" = some (some (.ref f_m_functions)))
    (i_m_functions : PySem.W.isFn K (.ref f_m_functions) = true)
    (l_m_functions : K.lookup f_m_functions = some ⟨oc_m_functions, od_m_functions, .func (PySem.W.fnOf "functions" "Reading.functions" (defArgs (inClass (top 49) 13)) (defBody (inClass (top 49) 13)) (defScope (inClass (top 49) 13)) .none kV_m_functions dc_m_functions pm_m_functions an_m_functions (.ref c_m_functions) ct_m_functions), sl_m_functions⟩)
    (e_m_functions : PySem.W.codeIn K (.ref c_m_functions) "Reading.functions" = true)
    (k_m_functions : PySem.W.keepIn K (.ref f_m_functions) = true)
    (a_read_program : PySem.W.nsIn K mainGlobals "read_program" = some (some (.ref f_read_program)))
    (l_read_program : K.lookup f_read_program = some ⟨oc_read_program, od_read_program, .func (PySem.W.fnOf "read_program" "read_program" (defArgs (top 50)) (defBody (top 50)) (defScope (top 50)) .none kV_read_program dc_read_program pm_read_program an_read_program (.ref c_read_program) ct_read_program), sl_read_program⟩)
    (e_read_program : PySem.W.codeIn K (.ref c_read_program) "read_program" = true)
    (k_read_program : PySem.W.keepIn K (.ref f_read_program) = true)
    (a_read_plain : PySem.W.nsIn K mainGlobals "read_plain" = some (some (.ref f_read_plain)))
    (l_read_plain : K.lookup f_read_plain = some ⟨oc_read_plain, od_read_plain, .func (PySem.W.fnOf "read_plain" "read_plain" (defArgs (top 51)) (defBody (top 51)) (defScope (top 51)) .none kV_read_plain dc_read_plain pm_read_plain an_read_plain (.ref c_read_plain) ct_read_plain), sl_read_plain⟩)
    (e_read_plain : PySem.W.codeIn K (.ref c_read_plain) "read_plain" = true)
    (k_read_plain : PySem.W.keepIn K (.ref f_read_plain) = true)
    (a_write_move : PySem.W.nsIn K mainGlobals "write_move" = some (some (.ref f_write_move)))
    (l_write_move : K.lookup f_write_move = some ⟨oc_write_move, od_write_move, .func (PySem.W.fnOf "write_move" "write_move" (defArgs (top 55)) (defBody (top 55)) (defScope (top 55)) .none kV_write_move dc_write_move pm_write_move an_write_move (.ref c_write_move) ct_write_move), sl_write_move⟩)
    (e_write_move : PySem.W.codeIn K (.ref c_write_move) "write_move" = true)
    (k_write_move : PySem.W.keepIn K (.ref f_write_move) = true)
    (a_write_test : PySem.W.nsIn K mainGlobals "write_test" = some (some (.ref f_write_test)))
    (l_write_test : K.lookup f_write_test = some ⟨oc_write_test, od_write_test, .func (PySem.W.fnOf "write_test" "write_test" (defArgs (top 56)) (defBody (top 56)) (defScope (top 56)) .none kV_write_test dc_write_test pm_write_test an_write_test (.ref c_write_test) ct_write_test), sl_write_test⟩)
    (e_write_test : PySem.W.codeIn K (.ref c_write_test) "write_test" = true)
    (k_write_test : PySem.W.keepIn K (.ref f_write_test) = true)
    (a_write_call : PySem.W.nsIn K mainGlobals "write_call" = some (some (.ref f_write_call)))
    (l_write_call : K.lookup f_write_call = some ⟨oc_write_call, od_write_call, .func (PySem.W.fnOf "write_call" "write_call" (defArgs (top 57)) (defBody (top 57)) (defScope (top 57)) .none kV_write_call dc_write_call pm_write_call an_write_call (.ref c_write_call) ct_write_call), sl_write_call⟩)
    (e_write_call : PySem.W.codeIn K (.ref c_write_call) "write_call" = true)
    (k_write_call : PySem.W.keepIn K (.ref f_write_call) = true)
    (a_write_one : PySem.W.nsIn K mainGlobals "write_one" = some (some (.ref f_write_one)))
    (l_write_one : K.lookup f_write_one = some ⟨oc_write_one, od_write_one, .func (PySem.W.fnOf "write_one" "write_one" (defArgs (top 58)) (defBody (top 58)) (defScope (top 58)) .none kV_write_one dc_write_one pm_write_one an_write_one (.ref c_write_one) ct_write_one), sl_write_one⟩)
    (e_write_one : PySem.W.codeIn K (.ref c_write_one) "write_one" = true)
    (k_write_one : PySem.W.keepIn K (.ref f_write_one) = true)
    (a_write_program : PySem.W.nsIn K mainGlobals "write_program" = some (some (.ref f_write_program)))
    (l_write_program : K.lookup f_write_program = some ⟨oc_write_program, od_write_program, .func (PySem.W.fnOf "write_program" "write_program" (defArgs (top 59)) (defBody (top 59)) (defScope (top 59)) .none kV_write_program dc_write_program pm_write_program an_write_program (.ref c_write_program) ct_write_program), sl_write_program⟩)
    (e_write_program : PySem.W.codeIn K (.ref c_write_program) "write_program" = true)
    (k_write_program : PySem.W.keepIn K (.ref f_write_program) = true)
    (a_write_plain : PySem.W.nsIn K mainGlobals "write_plain" = some (some (.ref f_write_plain)))
    (l_write_plain : K.lookup f_write_plain = some ⟨oc_write_plain, od_write_plain, .func (PySem.W.fnOf "write_plain" "write_plain" (defArgs (top 60)) (defBody (top 60)) (defScope (top 60)) .none kV_write_plain dc_write_plain pm_write_plain an_write_plain (.ref c_write_plain) ct_write_plain), sl_write_plain⟩)
    (e_write_plain : PySem.W.codeIn K (.ref c_write_plain) "write_plain" = true)
    (k_write_plain : PySem.W.keepIn K (.ref f_write_plain) = true)
    (a__law_taken : PySem.W.nsIn K mainGlobals "_law_taken" = some (some (.ref f__law_taken)))
    (l__law_taken : K.lookup f__law_taken = some ⟨oc__law_taken, od__law_taken, .func (PySem.W.fnOf "_law_taken" "_law_taken" (defArgs (top 62)) (defBody (top 62)) (defScope (top 62)) .none kV__law_taken dc__law_taken pm__law_taken an__law_taken (.ref c__law_taken) ct__law_taken), sl__law_taken⟩)
    (e__law_taken : PySem.W.codeIn K (.ref c__law_taken) "_law_taken" = true)
    (k__law_taken : PySem.W.keepIn K (.ref f__law_taken) = true)
    (a__law_pick : PySem.W.nsIn K mainGlobals "_law_pick" = some (some (.ref f__law_pick)))
    (l__law_pick : K.lookup f__law_pick = some ⟨oc__law_pick, od__law_pick, .func (PySem.W.fnOf "_law_pick" "_law_pick" (defArgs (top 63)) (defBody (top 63)) (defScope (top 63)) .none kV__law_pick dc__law_pick pm__law_pick an__law_pick (.ref c__law_pick) ct__law_pick), sl__law_pick⟩)
    (e__law_pick : PySem.W.codeIn K (.ref c__law_pick) "_law_pick" = true)
    (k__law_pick : PySem.W.keepIn K (.ref f__law_pick) = true)
    (a_told : PySem.W.nsIn K mainGlobals "_law_told" = some (some (.ref f_told)))
    (l_told : K.lookup f_told = some ⟨oc_told, od_told, .func (PySem.W.fnOf "_law_told" "_law_told" (defArgs (top 65)) (defBody (top 65)) (defScope (top 65)) .none kV_told dc_told pm_told an_told (.ref c_told) ct_told), sl_told⟩)
    (e_told : PySem.W.codeIn K (.ref c_told) "_law_told" = true)
    (k_told : PySem.W.keepIn K (.ref f_told) = true)
    (a_law : PySem.W.nsIn K mainGlobals "law" = some (some (.ref f_law)))
    (l_law : K.lookup f_law = some ⟨oc_law, od_law, .func (PySem.W.fnOf "law" "law" (defArgs (top 66)) (defBody (top 66)) (defScope (top 66)) .none kV_law dc_law pm_law an_law (.ref c_law) ct_law), sl_law⟩)
    (e_law : PySem.W.codeIn K (.ref c_law) "law" = true)
    (k_law : PySem.W.keepIn K (.ref f_law) = true)
    (o_is_name : K.lookup c_is_name = some ob_is_name)
    (t9_is_name : tabAt ob_is_name = some t_is_name)
    (z_is_name : K.lookup t_is_name = none)
    (r_is_name : ((recsOf q).any fun e => e.name == ("is_name" : Str)) = true)
    (o_is_test : K.lookup c_is_test = some ob_is_test)
    (t9_is_test : tabAt ob_is_test = some t_is_test)
    (z_is_test : K.lookup t_is_test = none)
    (r_is_test : ((recsOf q).any fun e => e.name == ("is_test" : Str)) = true)
    (o_is_expression : K.lookup c_is_expression = some ob_is_expression)
    (t9_is_expression : tabAt ob_is_expression = some t_is_expression)
    (z_is_expression : K.lookup t_is_expression = none)
    (r_is_expression : ((recsOf q).any fun e => e.name == ("is_expression" : Str)) = true)
    (o_is_all_early : K.lookup c_is_all_early = some ob_is_all_early)
    (t9_is_all_early : tabAt ob_is_all_early = some t_is_all_early)
    (z_is_all_early : K.lookup t_is_all_early = none)
    (r_is_all_early : ((recsOf q).any fun e => e.name == ("is_all_early" : Str)) = true)
    (o_nodes_of : K.lookup c_nodes_of = some ob_nodes_of)
    (t9_nodes_of : tabAt ob_nodes_of = some t_nodes_of)
    (z_nodes_of : K.lookup t_nodes_of = none)
    (r_nodes_of : ((recsOf q).any fun e => e.name == ("nodes_of" : Str)) = true)
    (o_is_program : K.lookup c_is_program = some ob_is_program)
    (t9_is_program : tabAt ob_is_program = some t_is_program)
    (z_is_program : K.lookup t_is_program = none)
    (r_is_program : ((recsOf q).any fun e => e.name == ("is_program" : Str)) = true)
    (o_point_of : K.lookup c_point_of = some ob_point_of)
    (t9_point_of : tabAt ob_point_of = some t_point_of)
    (z_point_of : K.lookup t_point_of = none)
    (r_point_of : ((recsOf q).any fun e => e.name == ("point_of" : Str)) = true)
    (o_is_plain_expression : K.lookup c_is_plain_expression = some ob_is_plain_expression)
    (t9_is_plain_expression : tabAt ob_is_plain_expression = some t_is_plain_expression)
    (z_is_plain_expression : K.lookup t_is_plain_expression = none)
    (r_is_plain_expression : ((recsOf q).any fun e => e.name == ("is_plain_expression" : Str)) = true)
    (o_is_plain : K.lookup c_is_plain = some ob_is_plain)
    (t9_is_plain : tabAt ob_is_plain = some t_is_plain)
    (z_is_plain : K.lookup t_is_plain = none)
    (r_is_plain : ((recsOf q).any fun e => e.name == ("is_plain" : Str)) = true)
    (o_law : K.lookup c_law = some ob_law)
    (t9_law : tabAt ob_law = some tL)
    (z_law : K.lookup tL = none)
    (r_law : ((recsOf q).any fun e => e.name == ("law" : Str)) = true)
    (ne_is_name : Nat.beq tL t_is_name = false)
    (ne_is_test : Nat.beq tL t_is_test = false)
    (ne_is_expression : Nat.beq tL t_is_expression = false)
    (ne_is_all_early : Nat.beq tL t_is_all_early = false)
    (ne_nodes_of : Nat.beq tL t_nodes_of = false)
    (ne_is_program : Nat.beq tL t_is_program = false)
    (ne_point_of : Nat.beq tL t_point_of = false)
    (ne_is_plain_expression : Nat.beq tL t_is_plain_expression = false)
    (ne_is_plain : Nat.beq tL t_is_plain = false)
    (pg : PySem.W.plainGet K C Str.empty = true)
    (hd : PySem.W.hasDictIn K C = true)
    (po : PySem.W.plainOver K C = true)
    (sa : PySem.W.findIn K (.ref C) "__setattr__" = some (some (.builtin "object.__setattr__")))
    (mkC : PySem.W.makesIn K C = true)
    (kC : PySem.W.keepIn K (.ref C) = true)
    (n0 : PySem.W.findIn K (.ref C) "words" = some none)
    (n1 : PySem.W.findIn K (.ref C) "is_staged" = some none)
    (n2 : PySem.W.findIn K (.ref C) "at" = some none)
    (g_InvalidText : PySem.W.nsIn K mainGlobals "InvalidText" = some (some (.ref cI)))
    (k_InvalidText : PySem.W.keepIn K (.ref cI) = true)
    (q_InvalidText : PySem.W.excIn K cI [.type "ValueError", .type "Exception", .type "BaseException", .type "object"] "ValueError.__new__" = true)
    (b_InvalidText : PySem.W.subIn K (.ref cI) (.type "BaseException") = some true)
    (t_InvalidText : PySem.W.typeIn K (.ref cI) = some (.type "type"))
    (x1_InvalidText : PySem.W.findIn K (.ref cI) "__getattribute__" = some (some (.builtin "BaseException.__getattribute__")))
    (x2_InvalidText : PySem.W.findIn K (.ref cI) "__getattr__" = some none)
    (x3_InvalidText : PySem.W.hasDictIn K cI = true)
    (x4_InvalidText : PySem.W.findIn K (.ref cI) "__class__" = some (some (.builtin "object.__class__")))
    (x5_InvalidText : PySem.W.mroIn K cI (.type "object") = some true)
    (g_NotText : PySem.W.nsIn K mainGlobals "NotText" = some (some (.ref cN)))
    (k_NotText : PySem.W.keepIn K (.ref cN) = true)
    (q_NotText : PySem.W.excIn K cN [.type "ValueError", .type "Exception", .type "BaseException", .type "object"] "ValueError.__new__" = true)
    (b_NotText : PySem.W.subIn K (.ref cN) (.type "BaseException") = some true)
    (t_NotText : PySem.W.typeIn K (.ref cN) = some (.type "type"))
    (x1_NotText : PySem.W.findIn K (.ref cN) "__getattribute__" = some (some (.builtin "BaseException.__getattribute__")))
    (x2_NotText : PySem.W.findIn K (.ref cN) "__getattr__" = some none)
    (x3_NotText : PySem.W.hasDictIn K cN = true)
    (x4_NotText : PySem.W.findIn K (.ref cN) "__class__" = some (some (.builtin "object.__class__")))
    (x5_NotText : PySem.W.mroIn K cN (.type "object") = some true)
    (x6 : PySem.W.specialIn K (.builtin "object.__class__") "__get__" = some (some (.builtin "getset_descriptor.__get__")))
    (x7 : PySem.W.takesIn K (.builtin "object.__class__") = some true)
    (gS : PySem.W.nsIn K mainGlobals "StageError" = some (some (.ref cS)))
    (s1 : PySem.W.subIn K (.ref cS) (.type "BaseException") = some true)
    (s2 : PySem.W.hasDictIn K cS = true)
    (s3 : PySem.W.typeIn K (.ref cS) = some (.type "type"))
    (s4 : PySem.W.subIn K (.ref cI) (.ref cS) = some true)
    (s5 : PySem.W.subIn K (.ref cN) (.ref cS) = some true)
    (s6 : PySem.W.kitOne K (.ref cI) (.ref cI) = some true)
    (s7 : PySem.W.kitOne K (.ref cN) (.ref cI) = some false)
    (v_MOST_NUMBER : PySem.W.nsIn K mainGlobals "MOST_NUMBER" = some (some (.int 1000000 tk_MOST_NUMBER)))
    (v_MOST_GIVEN : PySem.W.nsIn K mainGlobals "MOST_GIVEN" = some (some (.int 1000 tk_MOST_GIVEN)))
    (v_MOST_MOVE : PySem.W.nsIn K mainGlobals "MOST_MOVE" = some (some (.int 5 tk_MOST_MOVE)))
    (v_MOST_REST : PySem.W.nsIn K mainGlobals "MOST_REST" = some (some (.int 6 tk_MOST_REST)))
    (v_MOST_LATES : PySem.W.nsIn K mainGlobals "MOST_LATES" = some (some (.int 4 tk_MOST_LATES)))
    (v_MOST_FUNCTIONS : PySem.W.nsIn K mainGlobals "MOST_FUNCTIONS" = some (some (.int 8 tk_MOST_FUNCTIONS)))
    (v_MOST_NODES : PySem.W.nsIn K mainGlobals "MOST_NODES" = some (some (.int 300 tk_MOST_NODES)))
    (v_MOST_LETTERS : PySem.W.nsIn K mainGlobals "MOST_LETTERS" = some (some (.int 8 tk_MOST_LETTERS)))
    (v_MOST_DEEP : PySem.W.nsIn K mainGlobals "MOST_DEEP" = some (some (.int 30 tk_MOST_DEEP)))
    (v_LETTERS : PySem.W.nsIn K mainGlobals "LETTERS" = some (some (.str ⟨([97, 98, 99, 100, 101, 102, 103, 104, 105, 106, 107, 108, 109, 110, 111, 112, 113, 114, 115, 116, 117, 118, 119, 120, 121, 122] : List Nat).toArray⟩ tk_LETTERS)))
    (v_TAKEN : PySem.W.nsIn K mainGlobals "TAKEN" = some (some (.ref la_TAKEN)))
    (w_TAKEN : K.lookup la_TAKEN = some lo_TAKEN)
    (y_TAKEN : lstOf lo_TAKEN = some [[105, 102], [116, 104, 101, 110], [101, 108, 115, 101], [109, 111, 100], [97], [98], [99], [100], [101]])
    (v_PAIRS : PySem.W.nsIn K mainGlobals "PAIRS" = some (some (.ref la_PAIRS)))
    (w_PAIRS : K.lookup la_PAIRS = some lo_PAIRS)
    (y_PAIRS : lstOf lo_PAIRS = some [[112, 108, 117, 115], [109, 105, 110, 117, 115], [116, 105, 109, 101, 115]])
    (v_MOST_VALUE : PySem.W.nsIn K mainGlobals "MOST_VALUE" = some (some (.int 1000000000000000000000000000000 tk_MOST_VALUE)))
    (v_MOST_EARLY : PySem.W.nsIn K mainGlobals "MOST_EARLY" = some (some (.int 10000000 tk_MOST_EARLY)))
    (v_MOST_PLAIN : PySem.W.nsIn K mainGlobals "MOST_PLAIN" = some (some (.int 300 tk_MOST_PLAIN)))
    (v_DIGITS_plains : PySem.W.nsIn K mainGlobals "DIGITS_plains" = some (some (.str ⟨([48, 49, 50, 51, 52, 53, 54, 55, 56, 57] : List Nat).toArray⟩ tk_DIGITS_plains)))
    (v_DIGITS_reading : PySem.W.nsIn K mainGlobals "DIGITS_reading" = some (some (.str ⟨([48, 49, 50, 51, 52, 53, 54, 55, 56, 57] : List Nat).toArray⟩ tk_DIGITS_reading)))
    (v_ALONE : PySem.W.nsIn K mainGlobals "ALONE" = some (some (.str ⟨([40, 41, 124, 44, 61, 59, 60, 43, 45, 42] : List Nat).toArray⟩ tk_ALONE)))
    (v_LATES_reading : PySem.W.nsIn K mainGlobals "LATES_reading" = some (some (.ref la_LATES_reading)))
    (w_LATES_reading : K.lookup la_LATES_reading = some lo_LATES_reading)
    (y_LATES_reading : lstOf lo_LATES_reading = some [[97], [98], [99], [100]])
    (v_LATES_texts : PySem.W.nsIn K mainGlobals "LATES_texts" = some (some (.str ⟨([97, 98, 99, 100] : List Nat).toArray⟩ tk_LATES_texts)))
    (d1_KINDS : PySem.W.nsIn K mainGlobals "KINDS" = some (some (.ref da_KINDS)))
    (d2_KINDS : K.lookup da_KINDS = some ⟨.type "dict", none, .dict es_KINDS dn_KINDS, #[]⟩)
    (d3_KINDS : es_KINDS.toList.map He.keyOf = He.keysIn w.params ["+", "-", "*"])
    (d4_KINDS : (da_KINDS == sysModules) = false)
    (d5_KINDS : es_KINDS.toList.map kvOf = kv_KINDS.map some)
    (d1_SIGNS : PySem.W.nsIn K mainGlobals "SIGNS" = some (some (.ref da_SIGNS)))
    (d2_SIGNS : K.lookup da_SIGNS = some ⟨.type "dict", none, .dict es_SIGNS dn_SIGNS, #[]⟩)
    (d3_SIGNS : es_SIGNS.toList.map He.keyOf = He.keysIn w.params ["plus", "minus", "times"])
    (d4_SIGNS : (da_SIGNS == sysModules) = false)
    (d5_SIGNS : es_SIGNS.toList.map kvOf = kv_SIGNS.map some)
    (b_isinstance : PySem.W.nsIn K mainGlobals "isinstance" = some none)
    (b_len : PySem.W.nsIn K mainGlobals "len" = some none)
    (b_all : PySem.W.nsIn K mainGlobals "all" = some none)
    (b_sum : PySem.W.nsIn K mainGlobals "sum" = some none)
    (b_int : PySem.W.nsIn K mainGlobals "int" = some none)
    (b_str : PySem.W.nsIn K mainGlobals "str" = some none)
    (b_tuple : PySem.W.nsIn K mainGlobals "tuple" = some none)
    (b_bool : PySem.W.nsIn K mainGlobals "bool" = some none)
    (b_list : PySem.W.nsIn K mainGlobals "list" = some none)
    (b_max : PySem.W.nsIn K mainGlobals "max" = some none)
    {Gl : Prop} (fin : ∀ c : Fc w K mg, TabsC c h → Gl) :
    Gl := by
  let c : Fc w K mg := {
    C := C
    cI := cI
    cN := cN
    cS := cS
    tL := tL
    f_is_in := f_is_in
    c_is_in := c_is_in
    fd_is_in := _
    F_is_in := funC_mk l_is_in e_is_in k_is_in
    g_is_in := PySem.W.mg_of X G a_is_in
    f_is_name := f_is_name
    c_is_name := c_is_name
    fd_is_name := _
    F_is_name := funC_mk l_is_name e_is_name k_is_name
    g_is_name := PySem.W.mg_of X G a_is_name
    f_is_tuple := f_is_tuple
    c_is_tuple := c_is_tuple
    fd_is_tuple := _
    F_is_tuple := funC_mk l_is_tuple e_is_tuple k_is_tuple
    g_is_tuple := PySem.W.mg_of X G a_is_tuple
    f_is_move := f_is_move
    c_is_move := c_is_move
    fd_is_move := _
    F_is_move := funC_mk l_is_move e_is_move k_is_move
    g_is_move := PySem.W.mg_of X G a_is_move
    f_is_test := f_is_test
    c_is_test := c_is_test
    fd_is_test := _
    F_is_test := funC_mk l_is_test e_is_test k_is_test
    g_is_test := PySem.W.mg_of X G a_is_test
    f_is_expression := f_is_expression
    c_is_expression := c_is_expression
    fd_is_expression := _
    F_is_expression := funC_mk l_is_expression e_is_expression k_is_expression
    g_is_expression := PySem.W.mg_of X G a_is_expression
    f_parts_of := f_parts_of
    c_parts_of := c_parts_of
    fd_parts_of := _
    F_parts_of := funC_mk l_parts_of e_parts_of k_parts_of
    g_parts_of := PySem.W.mg_of X G a_parts_of
    f_is_all_early := f_is_all_early
    c_is_all_early := c_is_all_early
    fd_is_all_early := _
    F_is_all_early := funC_mk l_is_all_early e_is_all_early k_is_all_early
    g_is_all_early := PySem.W.mg_of X G a_is_all_early
    f_nodes_of := f_nodes_of
    c_nodes_of := c_nodes_of
    fd_nodes_of := _
    F_nodes_of := funC_mk l_nodes_of e_nodes_of k_nodes_of
    g_nodes_of := PySem.W.mg_of X G a_nodes_of
    f_calls_of := f_calls_of
    c_calls_of := c_calls_of
    fd_calls_of := _
    F_calls_of := funC_mk l_calls_of e_calls_of k_calls_of
    g_calls_of := PySem.W.mg_of X G a_calls_of
    f_is_function := f_is_function
    c_is_function := c_is_function
    fd_is_function := _
    F_is_function := funC_mk l_is_function e_is_function k_is_function
    g_is_function := PySem.W.mg_of X G a_is_function
    f_is_program := f_is_program
    c_is_program := c_is_program
    fd_is_program := _
    F_is_program := funC_mk l_is_program e_is_program k_is_program
    g_is_program := PySem.W.mg_of X G a_is_program
    f_need_program := f_need_program
    c_need_program := c_need_program
    fd_need_program := _
    F_need_program := funC_mk l_need_program e_need_program k_need_program
    g_need_program := PySem.W.mg_of X G a_need_program
    f_point_of := f_point_of
    c_point_of := c_point_of
    fd_point_of := _
    F_point_of := funC_mk l_point_of e_point_of k_point_of
    g_point_of := PySem.W.mg_of X G a_point_of
    f_is_plain_expression := f_is_plain_expression
    c_is_plain_expression := c_is_plain_expression
    fd_is_plain_expression := _
    F_is_plain_expression := funC_mk l_is_plain_expression e_is_plain_expression k_is_plain_expression
    g_is_plain_expression := PySem.W.mg_of X G a_is_plain_expression
    f_is_plain_function := f_is_plain_function
    c_is_plain_function := c_is_plain_function
    fd_is_plain_function := _
    F_is_plain_function := funC_mk l_is_plain_function e_is_plain_function k_is_plain_function
    g_is_plain_function := PySem.W.mg_of X G a_is_plain_function
    f_is_plain := f_is_plain
    c_is_plain := c_is_plain
    fd_is_plain := _
    F_is_plain := funC_mk l_is_plain e_is_plain k_is_plain
    g_is_plain := PySem.W.mg_of X G a_is_plain
    f_need_plain := f_need_plain
    c_need_plain := c_need_plain
    fd_need_plain := _
    F_need_plain := funC_mk l_need_plain e_need_plain k_need_plain
    g_need_plain := PySem.W.mg_of X G a_need_plain
    f_row_end := f_row_end
    c_row_end := c_row_end
    fd_row_end := _
    F_row_end := funC_mk l_row_end e_row_end k_row_end
    g_row_end := PySem.W.mg_of X G a_row_end
    f_words_of := f_words_of
    c_words_of := c_words_of
    fd_words_of := _
    F_words_of := funC_mk l_words_of e_words_of k_words_of
    g_words_of := PySem.W.mg_of X G a_words_of
    f_m_init := f_m_init
    c_m_init := c_m_init
    fd_m_init := _
    F_m_init := funC_mk l_m_init e_m_init k_m_init
    f_m_look := f_m_look
    c_m_look := c_m_look
    fd_m_look := _
    F_m_look := funC_mk l_m_look e_m_look k_m_look
    M_m_look := ⟨a_m_look, i_m_look, k_m_look⟩
    f_m_next := f_m_next
    c_m_next := c_m_next
    fd_m_next := _
    F_m_next := funC_mk l_m_next e_m_next k_m_next
    M_m_next := ⟨a_m_next, i_m_next, k_m_next⟩
    f_m_need := f_m_need
    c_m_need := c_m_need
    fd_m_need := _
    F_m_need := funC_mk l_m_need e_m_need k_m_need
    M_m_need := ⟨a_m_need, i_m_need, k_m_need⟩
    f_m_number := f_m_number
    c_m_number := c_m_number
    fd_m_number := _
    F_m_number := funC_mk l_m_number e_m_number k_m_number
    M_m_number := ⟨a_m_number, i_m_number, k_m_number⟩
    f_m_move := f_m_move
    c_m_move := c_m_move
    fd_m_move := _
    F_m_move := funC_mk l_m_move e_m_move k_m_move
    M_m_move := ⟨a_m_move, i_m_move, k_m_move⟩
    f_m_some := f_m_some
    c_m_some := c_m_some
    fd_m_some := _
    F_m_some := funC_mk l_m_some e_m_some k_m_some
    M_m_some := ⟨a_m_some, i_m_some, k_m_some⟩
    f_m_call := f_m_call
    c_m_call := c_m_call
    fd_m_call := _
    F_m_call := funC_mk l_m_call e_m_call k_m_call
    M_m_call := ⟨a_m_call, i_m_call, k_m_call⟩
    f_m_test := f_m_test
    c_m_test := c_m_test
    fd_m_test := _
    F_m_test := funC_mk l_m_test e_m_test k_m_test
    M_m_test := ⟨a_m_test, i_m_test, k_m_test⟩
    f_m_inside := f_m_inside
    c_m_inside := c_m_inside
    fd_m_inside := _
    F_m_inside := funC_mk l_m_inside e_m_inside k_m_inside
    M_m_inside := ⟨a_m_inside, i_m_inside, k_m_inside⟩
    f_m_expression := f_m_expression
    c_m_expression := c_m_expression
    fd_m_expression := _
    F_m_expression := funC_mk l_m_expression e_m_expression k_m_expression
    M_m_expression := ⟨a_m_expression, i_m_expression, k_m_expression⟩
    f_m_function := f_m_function
    c_m_function := c_m_function
    fd_m_function := _
    F_m_function := funC_mk l_m_function e_m_function k_m_function
    M_m_function := ⟨a_m_function, i_m_function, k_m_function⟩
    f_m_letters := f_m_letters
    c_m_letters := c_m_letters
    fd_m_letters := _
    F_m_letters := funC_mk l_m_letters e_m_letters k_m_letters
    M_m_letters := ⟨a_m_letters, i_m_letters, k_m_letters⟩
    f_m_functions := f_m_functions
    c_m_functions := c_m_functions
    fd_m_functions := _
    F_m_functions := funC_mk l_m_functions e_m_functions k_m_functions
    M_m_functions := ⟨a_m_functions, i_m_functions, k_m_functions⟩
    f_read_program := f_read_program
    c_read_program := c_read_program
    fd_read_program := _
    F_read_program := funC_mk l_read_program e_read_program k_read_program
    g_read_program := PySem.W.mg_of X G a_read_program
    f_read_plain := f_read_plain
    c_read_plain := c_read_plain
    fd_read_plain := _
    F_read_plain := funC_mk l_read_plain e_read_plain k_read_plain
    g_read_plain := PySem.W.mg_of X G a_read_plain
    f_write_move := f_write_move
    c_write_move := c_write_move
    fd_write_move := _
    F_write_move := funC_mk l_write_move e_write_move k_write_move
    g_write_move := PySem.W.mg_of X G a_write_move
    f_write_test := f_write_test
    c_write_test := c_write_test
    fd_write_test := _
    F_write_test := funC_mk l_write_test e_write_test k_write_test
    g_write_test := PySem.W.mg_of X G a_write_test
    f_write_call := f_write_call
    c_write_call := c_write_call
    fd_write_call := _
    F_write_call := funC_mk l_write_call e_write_call k_write_call
    g_write_call := PySem.W.mg_of X G a_write_call
    f_write_one := f_write_one
    c_write_one := c_write_one
    fd_write_one := _
    F_write_one := funC_mk l_write_one e_write_one k_write_one
    g_write_one := PySem.W.mg_of X G a_write_one
    f_write_program := f_write_program
    c_write_program := c_write_program
    fd_write_program := _
    F_write_program := funC_mk l_write_program e_write_program k_write_program
    g_write_program := PySem.W.mg_of X G a_write_program
    f_write_plain := f_write_plain
    c_write_plain := c_write_plain
    fd_write_plain := _
    F_write_plain := funC_mk l_write_plain e_write_plain k_write_plain
    g_write_plain := PySem.W.mg_of X G a_write_plain
    f__law_taken := f__law_taken
    c__law_taken := c__law_taken
    fd__law_taken := _
    F__law_taken := funC_mk l__law_taken e__law_taken k__law_taken
    g__law_taken := PySem.W.mg_of X G a__law_taken
    f__law_pick := f__law_pick
    c__law_pick := c__law_pick
    fd__law_pick := _
    F__law_pick := funC_mk l__law_pick e__law_pick k__law_pick
    g__law_pick := PySem.W.mg_of X G a__law_pick
    t_is_name := t_is_name
    ne_is_name := Nat.ne_of_beq_eq_false ne_is_name
    t_is_test := t_is_test
    ne_is_test := Nat.ne_of_beq_eq_false ne_is_test
    t_is_expression := t_is_expression
    ne_is_expression := Nat.ne_of_beq_eq_false ne_is_expression
    t_is_all_early := t_is_all_early
    ne_is_all_early := Nat.ne_of_beq_eq_false ne_is_all_early
    t_nodes_of := t_nodes_of
    ne_nodes_of := Nat.ne_of_beq_eq_false ne_nodes_of
    t_is_program := t_is_program
    ne_is_program := Nat.ne_of_beq_eq_false ne_is_program
    t_point_of := t_point_of
    ne_point_of := Nat.ne_of_beq_eq_false ne_point_of
    t_is_plain_expression := t_is_plain_expression
    ne_is_plain_expression := Nat.ne_of_beq_eq_false ne_is_plain_expression
    t_is_plain := t_is_plain
    ne_is_plain := Nat.ne_of_beq_eq_false ne_is_plain
    f_law := f_law
    c_law := c_law
    fd_law := _
    F_law := funC_mk l_law e_law k_law
    g_law := PySem.W.mg_of X G a_law
    f_told := f_told
    c_told := c_told
    fd_told := _
    told := ⟨funC_mk l_told e_told k_told, PySem.W.mg_of X G a_told, PySem.W.mg_of X G gS, PySem.W.mg_of X G g_InvalidText, PySem.W.mg_none_of X G b_isinstance, ⟨x1_InvalidText, x2_InvalidText, b_InvalidText, x3_InvalidText, x4_InvalidText, x6, x7, x5_InvalidText⟩, ⟨x1_NotText, x2_NotText, b_NotText, x3_NotText, x4_NotText, x6, x7, x5_NotText⟩, s6, s7, PySem.W.exm_ref s1 s2 s3 s4, PySem.W.exm_ref s1 s2 s3 s5⟩
    cl := ⟨pg, hd, po, sa⟩
    na0 := n0
    na1 := n1
    na2 := n2
    mkR := ⟨mkC, a_m_init, i_m_init, kC⟩
    gC := PySem.W.mg_of X G aC
    x_InvalidText := ⟨PySem.W.mg_of X G g_InvalidText, k_InvalidText, q_InvalidText, b_InvalidText, t_InvalidText⟩
    x_NotText := ⟨PySem.W.mg_of X G g_NotText, k_NotText, q_NotText, b_NotText, t_NotText⟩
    v_MOST_NUMBER := _
    mg_MOST_NUMBER := PySem.W.mg_of X G v_MOST_NUMBER
    gi_MOST_NUMBER := glob_int
    v_MOST_GIVEN := _
    mg_MOST_GIVEN := PySem.W.mg_of X G v_MOST_GIVEN
    gi_MOST_GIVEN := glob_int
    v_MOST_MOVE := _
    mg_MOST_MOVE := PySem.W.mg_of X G v_MOST_MOVE
    gi_MOST_MOVE := glob_int
    v_MOST_REST := _
    mg_MOST_REST := PySem.W.mg_of X G v_MOST_REST
    gi_MOST_REST := glob_int
    v_MOST_LATES := _
    mg_MOST_LATES := PySem.W.mg_of X G v_MOST_LATES
    gi_MOST_LATES := glob_int
    v_MOST_FUNCTIONS := _
    mg_MOST_FUNCTIONS := PySem.W.mg_of X G v_MOST_FUNCTIONS
    gi_MOST_FUNCTIONS := glob_int
    v_MOST_NODES := _
    mg_MOST_NODES := PySem.W.mg_of X G v_MOST_NODES
    gi_MOST_NODES := glob_int
    v_MOST_LETTERS := _
    mg_MOST_LETTERS := PySem.W.mg_of X G v_MOST_LETTERS
    gi_MOST_LETTERS := glob_int
    v_MOST_DEEP := _
    mg_MOST_DEEP := PySem.W.mg_of X G v_MOST_DEEP
    gi_MOST_DEEP := glob_int
    v_LETTERS := _
    mg_LETTERS := PySem.W.mg_of X G v_LETTERS
    gi_LETTERS := glob_str
    v_TAKEN := _
    mg_TAKEN := PySem.W.mg_of X G v_TAKEN
    gi_TAKEN := glob_lst w_TAKEN y_TAKEN rfl rfl
    v_PAIRS := _
    mg_PAIRS := PySem.W.mg_of X G v_PAIRS
    gi_PAIRS := glob_lst w_PAIRS y_PAIRS rfl rfl
    v_MOST_VALUE := _
    mg_MOST_VALUE := PySem.W.mg_of X G v_MOST_VALUE
    gi_MOST_VALUE := glob_int
    v_MOST_EARLY := _
    mg_MOST_EARLY := PySem.W.mg_of X G v_MOST_EARLY
    gi_MOST_EARLY := glob_int
    v_MOST_PLAIN := _
    mg_MOST_PLAIN := PySem.W.mg_of X G v_MOST_PLAIN
    gi_MOST_PLAIN := glob_int
    v_DIGITS_plains := _
    mg_DIGITS_plains := PySem.W.mg_of X G v_DIGITS_plains
    gi_DIGITS_plains := glob_str
    v_DIGITS_reading := _
    mg_DIGITS_reading := PySem.W.mg_of X G v_DIGITS_reading
    gi_DIGITS_reading := glob_str
    v_ALONE := _
    mg_ALONE := PySem.W.mg_of X G v_ALONE
    gi_ALONE := glob_str
    v_LATES_reading := _
    mg_LATES_reading := PySem.W.mg_of X G v_LATES_reading
    gi_LATES_reading := glob_lst w_LATES_reading y_LATES_reading rfl rfl
    v_LATES_texts := _
    mg_LATES_texts := PySem.W.mg_of X G v_LATES_texts
    gi_LATES_texts := glob_str
    a_KINDS := da_KINDS
    g_KINDS := PySem.W.mg_of X G d1_KINDS
    kd_KINDS := dict_mk d2_KINDS d3_KINDS d4_KINDS d5_KINDS
    a_SIGNS := da_SIGNS
    g_SIGNS := PySem.W.mg_of X G d1_SIGNS
    kd_SIGNS := dict_mk d2_SIGNS d3_SIGNS d4_SIGNS d5_SIGNS
    b_isinstance := PySem.W.mg_none_of X G b_isinstance
    b_len := PySem.W.mg_none_of X G b_len
    b_all := PySem.W.mg_none_of X G b_all
    b_sum := PySem.W.mg_none_of X G b_sum
    b_int := PySem.W.mg_none_of X G b_int
    b_str := PySem.W.mg_none_of X G b_str
    b_tuple := PySem.W.mg_none_of X G b_tuple
    b_bool := PySem.W.mg_none_of X G b_bool
    b_list := PySem.W.mg_none_of X G b_list
    b_max := PySem.W.mg_none_of X G b_max }
  refine fin c ?_
  exact ⟨tab_fact X TT r_is_name (PySem.W.mg_of X G a_is_name) l_is_name rfl o_is_name t9_is_name, z_is_name,
    tab_fact X TT r_is_test (PySem.W.mg_of X G a_is_test) l_is_test rfl o_is_test t9_is_test, z_is_test,
    tab_fact X TT r_is_expression (PySem.W.mg_of X G a_is_expression) l_is_expression rfl o_is_expression t9_is_expression, z_is_expression,
    tab_fact X TT r_is_all_early (PySem.W.mg_of X G a_is_all_early) l_is_all_early rfl o_is_all_early t9_is_all_early, z_is_all_early,
    tab_fact X TT r_nodes_of (PySem.W.mg_of X G a_nodes_of) l_nodes_of rfl o_nodes_of t9_nodes_of, z_nodes_of,
    tab_fact X TT r_is_program (PySem.W.mg_of X G a_is_program) l_is_program rfl o_is_program t9_is_program, z_is_program,
    tab_fact X TT r_point_of (PySem.W.mg_of X G a_point_of) l_point_of rfl o_point_of t9_point_of, z_point_of,
    tab_fact X TT r_is_plain_expression (PySem.W.mg_of X G a_is_plain_expression) l_is_plain_expression rfl o_is_plain_expression t9_is_plain_expression, z_is_plain_expression,
    tab_fact X TT r_is_plain (PySem.W.mg_of X G a_is_plain) l_is_plain rfl o_is_plain t9_is_plain, z_is_plain,
    tab_fact X TT r_law (PySem.W.mg_of X G a_law) l_law rfl o_law t9_law, z_law⟩
theorem codeAmong_nil (pos : Pos) : codeAmong pos [] = none := rfl
theorem law_at {l : PySem.W.OpenLaw} {w : World} {K : PySem.W.Frag} {mg : Str → Option Value} {h : Heap} {fa : Addr} (c : Fc w K mg) (hf : c.f_law = fa) (T : TabsC c h) : LamX.LawAtS l w K (L2.CX l.prog w) 124 63 "_law_script" mg fa h := by
  subst hf
  have mem : ∀ {Q : Addr × Addr → Prop}, Q (c.c_is_name, c.t_is_name) → Q (c.c_is_test, c.t_is_test) → Q (c.c_is_expression, c.t_is_expression) → Q (c.c_is_all_early, c.t_is_all_early) → Q (c.c_nodes_of, c.t_nodes_of) → Q (c.c_is_program, c.t_is_program) → Q (c.c_point_of, c.t_point_of) → Q (c.c_is_plain_expression, c.t_is_plain_expression) → Q (c.c_is_plain, c.t_is_plain) → Q (c.c_law, c.tL) → ∀ p ∈ ([(c.c_is_name, c.t_is_name), (c.c_is_test, c.t_is_test), (c.c_is_expression, c.t_is_expression), (c.c_is_all_early, c.t_is_all_early), (c.c_nodes_of, c.t_nodes_of), (c.c_is_program, c.t_is_program), (c.c_point_of, c.t_point_of), (c.c_is_plain_expression, c.t_is_plain_expression), (c.c_is_plain, c.t_is_plain), (c.c_law, c.tL)] : List (Addr × Addr)), Q p := fun {Q} h0 h1 h2 h3 h4 h5 h6 h7 h8 h9 p hp => by
    simp only [List.mem_cons, List.not_mem_nil, or_false] at hp
    rcases hp with e | e | e | e | e | e | e | e | e | e
    · rw [e]; exact h0
    · rw [e]; exact h1
    · rw [e]; exact h2
    · rw [e]; exact h3
    · rw [e]; exact h4
    · rw [e]; exact h5
    · rw [e]; exact h6
    · rw [e]; exact h7
    · rw [e]; exact h8
    · rw [e]; exact h9
  refine ⟨c.fd_law, [(c.c_is_name, c.t_is_name), (c.c_is_test, c.t_is_test), (c.c_is_expression, c.t_is_expression), (c.c_is_all_early, c.t_is_all_early), (c.c_nodes_of, c.t_nodes_of), (c.c_is_program, c.t_is_program), (c.c_point_of, c.t_point_of), (c.c_is_plain_expression, c.t_is_plain_expression), (c.c_is_plain, c.t_is_plain), (c.c_law, c.tL)], spLaw K c.M, mem T.h_is_name.1 T.h_is_test.1 T.h_is_expression.1 T.h_is_all_early.1 T.h_nodes_of.1 T.h_is_program.1 T.h_point_of.1 T.h_is_plain_expression.1 T.h_is_plain.1 T.h_law.1, mem T.z_is_name T.z_is_test T.z_is_expression T.z_is_all_early T.z_nodes_of T.z_is_program T.z_point_of T.z_is_plain_expression T.z_is_plain T.z_law, mem T.h_is_name.2 T.h_is_test.2 T.h_is_expression.2 T.h_is_all_early.2 T.h_nodes_of.2 T.h_is_program.2 T.h_point_of.2 T.h_is_plain_expression.2 T.h_is_plain.2 T.h_law.2, fun s u => ?_, fun H a ns hl hb hH hS => ?_, fun base kb hns TB => ?_⟩
  · obtain ⟨oc, od, kV, doc, pm, an, ct, osl, e, lk, hcd⟩ := c.F_law.ex
    rw [e]
    exact .of_eq rfl
  · refine ⟨a, ns, rfl, hS, fun P hP => ?_, fun q hq => ?_, fun _ => rfl⟩
    · have hP : P ∈ [c.t_is_name, c.t_is_test, c.t_is_expression, c.t_is_all_early, c.t_nodes_of, c.t_is_program, c.t_point_of, c.t_is_plain_expression, c.t_is_plain] := hP
      simp only [List.mem_cons, List.not_mem_nil, or_false] at hP
      rcases hP with e | e | e | e | e | e | e | e | e
      · rw [e]; exact ⟨#[], hH (c.c_is_name, c.t_is_name) (by simp), trivial⟩
      · rw [e]; exact ⟨#[], hH (c.c_is_test, c.t_is_test) (by simp), trivial⟩
      · rw [e]; exact ⟨#[], hH (c.c_is_expression, c.t_is_expression) (by simp), trivial⟩
      · rw [e]; exact ⟨#[], hH (c.c_is_all_early, c.t_is_all_early) (by simp), trivial⟩
      · rw [e]; exact ⟨#[], hH (c.c_nodes_of, c.t_nodes_of) (by simp), trivial⟩
      · rw [e]; exact ⟨#[], hH (c.c_is_program, c.t_is_program) (by simp), trivial⟩
      · rw [e]; exact ⟨#[], hH (c.c_point_of, c.t_point_of) (by simp), trivial⟩
      · rw [e]; exact ⟨#[], hH (c.c_is_plain_expression, c.t_is_plain_expression) (by simp), trivial⟩
      · rw [e]; exact ⟨#[], hH (c.c_is_plain, c.t_is_plain) (by simp), trivial⟩
    · have hq : q ∈ [(c.tL, (Str.ofString "law" ++ ".<locals>.") ++ "<lambda>")] := hq
      rw [List.mem_singleton.mp hq]
      exact ⟨#[], hH (c.c_law, c.tL) (by simp), trivial, fun pos cv hc => by cases hc⟩
  · have g : ∀ {p : Addr × Addr}, LamX.TabB base mg p.1 p.2 → GxR.TabB base mg p.1 p.2 := fun t => ⟨t.code, t.bm, t.gP⟩
    exact law_fn c ⟨g (TB (c.c_is_name, c.t_is_name) (by simp)), g (TB (c.c_is_test, c.t_is_test) (by simp)), g (TB (c.c_is_expression, c.t_is_expression) (by simp)), g (TB (c.c_is_all_early, c.t_is_all_early) (by simp)), g (TB (c.c_nodes_of, c.t_nodes_of) (by simp)), g (TB (c.c_is_program, c.t_is_program) (by simp)), g (TB (c.c_point_of, c.t_point_of) (by simp)), g (TB (c.c_is_plain_expression, c.t_is_plain_expression) (by simp)), g (TB (c.c_is_plain, c.t_is_plain) (by simp)), TB (c.c_law, c.tL) (by simp)⟩
end Kv

open PySem PySem.W PyProof.Rows
set_option maxRecDepth 100000 in
set_option maxHeartbeats 0 in
theorem PySem.Challenge.cw_staged_k14_whole_texts_refused_holds : PySem.Challenge.rw_staged_k14_whole_texts_refused.Holds := by
  w_on; o_law; k_head; (case hw => w_witness2)
  k_fill
  refine Kv.walk_tabs (l := PySem.Challenge.rw_staged_k14_whole_texts_refused) (n := 63) (k := 124) (x := "_law_script") (CX := fun w => L2.CX PySem.Challenge.rw_staged_k14_whole_texts_refused.prog w) rfl (by decide) rfl ⟨rfl, by decide, by decide⟩ (fun w h Y => PySem.W.km_in_of Y) ?F ?CX
  case CX =>
    intro w H s e s' z
    obtain ⟨_, _, _, _, _, _, _, _, _, _, _, _, z⟩ := z
    exact z.elim
  case F =>
    intro w mg fa h Y KX G hmg TT
    refine' Kv.all_mk KX G TT ?aC ?a_is_in ?l_is_in ?e_is_in ?k_is_in ?a_is_name ?l_is_name ?e_is_name ?k_is_name ?a_is_tuple ?l_is_tuple ?e_is_tuple ?k_is_tuple ?a_is_move ?l_is_move ?e_is_move ?k_is_move ?a_is_test ?l_is_test ?e_is_test ?k_is_test ?a_is_expression ?l_is_expression ?e_is_expression ?k_is_expression ?a_parts_of ?l_parts_of ?e_parts_of ?k_parts_of ?a_is_all_early ?l_is_all_early ?e_is_all_early ?k_is_all_early ?a_nodes_of ?l_nodes_of ?e_nodes_of ?k_nodes_of ?a_calls_of ?l_calls_of ?e_calls_of ?k_calls_of ?a_is_function ?l_is_function ?e_is_function ?k_is_function ?a_is_program ?l_is_program ?e_is_program ?k_is_program ?a_need_program ?l_need_program ?e_need_program ?k_need_program ?a_point_of ?l_point_of ?e_point_of ?k_point_of ?a_is_plain_expression ?l_is_plain_expression ?e_is_plain_expression ?k_is_plain_expression ?a_is_plain_function ?l_is_plain_function ?e_is_plain_function ?k_is_plain_function ?a_is_plain ?l_is_plain ?e_is_plain ?k_is_plain ?a_need_plain ?l_need_plain ?e_need_plain ?k_need_plain ?a_row_end ?l_row_end ?e_row_end ?k_row_end ?a_words_of ?l_words_of ?e_words_of ?k_words_of ?a_m_init ?i_m_init ?l_m_init ?e_m_init ?k_m_init ?a_m_look ?i_m_look ?l_m_look ?e_m_look ?k_m_look ?a_m_next ?i_m_next ?l_m_next ?e_m_next ?k_m_next ?a_m_need ?i_m_need ?l_m_need ?e_m_need ?k_m_need ?a_m_number ?i_m_number ?l_m_number ?e_m_number ?k_m_number ?a_m_move ?i_m_move ?l_m_move ?e_m_move ?k_m_move ?a_m_some ?i_m_some ?l_m_some ?e_m_some ?k_m_some ?a_m_call ?i_m_call ?l_m_call ?e_m_call ?k_m_call ?a_m_test ?i_m_test ?l_m_test ?e_m_test ?k_m_test ?a_m_inside ?i_m_inside ?l_m_inside ?e_m_inside ?k_m_inside ?a_m_expression ?i_m_expression ?l_m_expression ?e_m_expression ?k_m_expression ?a_m_function ?i_m_function ?l_m_function ?e_m_function ?k_m_function ?a_m_letters ?i_m_letters ?l_m_letters ?e_m_letters ?k_m_letters ?a_m_functions ?i_m_functions ?l_m_functions ?e_m_functions ?k_m_functions ?a_read_program ?l_read_program ?e_read_program ?k_read_program ?a_read_plain ?l_read_plain ?e_read_plain ?k_read_plain ?a_write_move ?l_write_move ?e_write_move ?k_write_move ?a_write_test ?l_write_test ?e_write_test ?k_write_test ?a_write_call ?l_write_call ?e_write_call ?k_write_call ?a_write_one ?l_write_one ?e_write_one ?k_write_one ?a_write_program ?l_write_program ?e_write_program ?k_write_program ?a_write_plain ?l_write_plain ?e_write_plain ?k_write_plain ?a__law_taken ?l__law_taken ?e__law_taken ?k__law_taken ?a__law_pick ?l__law_pick ?e__law_pick ?k__law_pick ?a_told ?l_told ?e_told ?k_told ?a_law ?l_law ?e_law ?k_law ?o_is_name ?t9_is_name ?z_is_name ?r_is_name ?o_is_test ?t9_is_test ?z_is_test ?r_is_test ?o_is_expression ?t9_is_expression ?z_is_expression ?r_is_expression ?o_is_all_early ?t9_is_all_early ?z_is_all_early ?r_is_all_early ?o_nodes_of ?t9_nodes_of ?z_nodes_of ?r_nodes_of ?o_is_program ?t9_is_program ?z_is_program ?r_is_program ?o_point_of ?t9_point_of ?z_point_of ?r_point_of ?o_is_plain_expression ?t9_is_plain_expression ?z_is_plain_expression ?r_is_plain_expression ?o_is_plain ?t9_is_plain ?z_is_plain ?r_is_plain ?o_law ?t9_law ?z_law ?r_law ?ne_is_name ?ne_is_test ?ne_is_expression ?ne_is_all_early ?ne_nodes_of ?ne_is_program ?ne_point_of ?ne_is_plain_expression ?ne_is_plain ?pg ?hd ?po ?sa ?mkC ?kC ?n0 ?n1 ?n2 ?g_InvalidText ?k_InvalidText ?q_InvalidText ?b_InvalidText ?t_InvalidText ?x1_InvalidText ?x2_InvalidText ?x3_InvalidText ?x4_InvalidText ?x5_InvalidText ?g_NotText ?k_NotText ?q_NotText ?b_NotText ?t_NotText ?x1_NotText ?x2_NotText ?x3_NotText ?x4_NotText ?x5_NotText ?x6 ?x7 ?gS ?s1 ?s2 ?s3 ?s4 ?s5 ?s6 ?s7 ?v_MOST_NUMBER ?v_MOST_GIVEN ?v_MOST_MOVE ?v_MOST_REST ?v_MOST_LATES ?v_MOST_FUNCTIONS ?v_MOST_NODES ?v_MOST_LETTERS ?v_MOST_DEEP ?v_LETTERS ?v_TAKEN ?w_TAKEN ?y_TAKEN ?v_PAIRS ?w_PAIRS ?y_PAIRS ?v_MOST_VALUE ?v_MOST_EARLY ?v_MOST_PLAIN ?v_DIGITS_plains ?v_DIGITS_reading ?v_ALONE ?v_LATES_reading ?w_LATES_reading ?y_LATES_reading ?v_LATES_texts ?d1_KINDS ?d2_KINDS ?d3_KINDS ?d4_KINDS ?d5_KINDS ?d1_SIGNS ?d2_SIGNS ?d3_SIGNS ?d4_SIGNS ?d5_SIGNS ?b_isinstance ?b_len ?b_all ?b_sum ?b_int ?b_str ?b_tuple ?b_bool ?b_list ?b_max ?fin
    (case aC => k_is)
    (case a_is_in => k_is)
    (case l_is_in => k_is)
    (case e_is_in => k_is)
    (case k_is_in => k_is)
    (case a_is_name => k_is)
    (case l_is_name => k_is)
    (case e_is_name => k_is)
    (case k_is_name => k_is)
    (case a_is_tuple => k_is)
    (case l_is_tuple => k_is)
    (case e_is_tuple => k_is)
    (case k_is_tuple => k_is)
    (case a_is_move => k_is)
    (case l_is_move => k_is)
    (case e_is_move => k_is)
    (case k_is_move => k_is)
    (case a_is_test => k_is)
    (case l_is_test => k_is)
    (case e_is_test => k_is)
    (case k_is_test => k_is)
    (case a_is_expression => k_is)
    (case l_is_expression => k_is)
    (case e_is_expression => k_is)
    (case k_is_expression => k_is)
    (case a_parts_of => k_is)
    (case l_parts_of => k_is)
    (case e_parts_of => k_is)
    (case k_parts_of => k_is)
    (case a_is_all_early => k_is)
    (case l_is_all_early => k_is)
    (case e_is_all_early => k_is)
    (case k_is_all_early => k_is)
    (case a_nodes_of => k_is)
    (case l_nodes_of => k_is)
    (case e_nodes_of => k_is)
    (case k_nodes_of => k_is)
    (case a_calls_of => k_is)
    (case l_calls_of => k_is)
    (case e_calls_of => k_is)
    (case k_calls_of => k_is)
    (case a_is_function => k_is)
    (case l_is_function => k_is)
    (case e_is_function => k_is)
    (case k_is_function => k_is)
    (case a_is_program => k_is)
    (case l_is_program => k_is)
    (case e_is_program => k_is)
    (case k_is_program => k_is)
    (case a_need_program => k_is)
    (case l_need_program => k_is)
    (case e_need_program => k_is)
    (case k_need_program => k_is)
    (case a_point_of => k_is)
    (case l_point_of => k_is)
    (case e_point_of => k_is)
    (case k_point_of => k_is)
    (case a_is_plain_expression => k_is)
    (case l_is_plain_expression => k_is)
    (case e_is_plain_expression => k_is)
    (case k_is_plain_expression => k_is)
    (case a_is_plain_function => k_is)
    (case l_is_plain_function => k_is)
    (case e_is_plain_function => k_is)
    (case k_is_plain_function => k_is)
    (case a_is_plain => k_is)
    (case l_is_plain => k_is)
    (case e_is_plain => k_is)
    (case k_is_plain => k_is)
    (case a_need_plain => k_is)
    (case l_need_plain => k_is)
    (case e_need_plain => k_is)
    (case k_need_plain => k_is)
    (case a_row_end => k_is)
    (case l_row_end => k_is)
    (case e_row_end => k_is)
    (case k_row_end => k_is)
    (case a_words_of => k_is)
    (case l_words_of => k_is)
    (case e_words_of => k_is)
    (case k_words_of => k_is)
    (case a_m_init => k_is)
    (case i_m_init => k_is)
    (case l_m_init => k_is)
    (case e_m_init => k_is)
    (case k_m_init => k_is)
    (case a_m_look => k_is)
    (case i_m_look => k_is)
    (case l_m_look => k_is)
    (case e_m_look => k_is)
    (case k_m_look => k_is)
    (case a_m_next => k_is)
    (case i_m_next => k_is)
    (case l_m_next => k_is)
    (case e_m_next => k_is)
    (case k_m_next => k_is)
    (case a_m_need => k_is)
    (case i_m_need => k_is)
    (case l_m_need => k_is)
    (case e_m_need => k_is)
    (case k_m_need => k_is)
    (case a_m_number => k_is)
    (case i_m_number => k_is)
    (case l_m_number => k_is)
    (case e_m_number => k_is)
    (case k_m_number => k_is)
    (case a_m_move => k_is)
    (case i_m_move => k_is)
    (case l_m_move => k_is)
    (case e_m_move => k_is)
    (case k_m_move => k_is)
    (case a_m_some => k_is)
    (case i_m_some => k_is)
    (case l_m_some => k_is)
    (case e_m_some => k_is)
    (case k_m_some => k_is)
    (case a_m_call => k_is)
    (case i_m_call => k_is)
    (case l_m_call => k_is)
    (case e_m_call => k_is)
    (case k_m_call => k_is)
    (case a_m_test => k_is)
    (case i_m_test => k_is)
    (case l_m_test => k_is)
    (case e_m_test => k_is)
    (case k_m_test => k_is)
    (case a_m_inside => k_is)
    (case i_m_inside => k_is)
    (case l_m_inside => k_is)
    (case e_m_inside => k_is)
    (case k_m_inside => k_is)
    (case a_m_expression => k_is)
    (case i_m_expression => k_is)
    (case l_m_expression => k_is)
    (case e_m_expression => k_is)
    (case k_m_expression => k_is)
    (case a_m_function => k_is)
    (case i_m_function => k_is)
    (case l_m_function => k_is)
    (case e_m_function => k_is)
    (case k_m_function => k_is)
    (case a_m_letters => k_is)
    (case i_m_letters => k_is)
    (case l_m_letters => k_is)
    (case e_m_letters => k_is)
    (case k_m_letters => k_is)
    (case a_m_functions => k_is)
    (case i_m_functions => k_is)
    (case l_m_functions => k_is)
    (case e_m_functions => k_is)
    (case k_m_functions => k_is)
    (case a_read_program => k_is)
    (case l_read_program => k_is)
    (case e_read_program => k_is)
    (case k_read_program => k_is)
    (case a_read_plain => k_is)
    (case l_read_plain => k_is)
    (case e_read_plain => k_is)
    (case k_read_plain => k_is)
    (case a_write_move => k_is)
    (case l_write_move => k_is)
    (case e_write_move => k_is)
    (case k_write_move => k_is)
    (case a_write_test => k_is)
    (case l_write_test => k_is)
    (case e_write_test => k_is)
    (case k_write_test => k_is)
    (case a_write_call => k_is)
    (case l_write_call => k_is)
    (case e_write_call => k_is)
    (case k_write_call => k_is)
    (case a_write_one => k_is)
    (case l_write_one => k_is)
    (case e_write_one => k_is)
    (case k_write_one => k_is)
    (case a_write_program => k_is)
    (case l_write_program => k_is)
    (case e_write_program => k_is)
    (case k_write_program => k_is)
    (case a_write_plain => k_is)
    (case l_write_plain => k_is)
    (case e_write_plain => k_is)
    (case k_write_plain => k_is)
    (case a__law_taken => k_is)
    (case l__law_taken => k_is)
    (case e__law_taken => k_is)
    (case k__law_taken => k_is)
    (case a__law_pick => k_is)
    (case l__law_pick => k_is)
    (case e__law_pick => k_is)
    (case k__law_pick => k_is)
    (case a_told => k_is)
    (case l_told => k_is)
    (case e_told => k_is)
    (case k_told => k_is)
    (case a_law => k_is)
    (case l_law => k_is)
    (case e_law => k_is)
    (case k_law => k_is)
    (case o_is_name => k_is)
    (case t9_is_name => exact rfl)
    (case z_is_name => first | exact rfl | kernel_rfl)
    (case r_is_name => first | exact rfl | kernel_rfl)
    (case o_is_test => k_is)
    (case t9_is_test => exact rfl)
    (case z_is_test => first | exact rfl | kernel_rfl)
    (case r_is_test => first | exact rfl | kernel_rfl)
    (case o_is_expression => k_is)
    (case t9_is_expression => exact rfl)
    (case z_is_expression => first | exact rfl | kernel_rfl)
    (case r_is_expression => first | exact rfl | kernel_rfl)
    (case o_is_all_early => k_is)
    (case t9_is_all_early => exact rfl)
    (case z_is_all_early => first | exact rfl | kernel_rfl)
    (case r_is_all_early => first | exact rfl | kernel_rfl)
    (case o_nodes_of => k_is)
    (case t9_nodes_of => exact rfl)
    (case z_nodes_of => first | exact rfl | kernel_rfl)
    (case r_nodes_of => first | exact rfl | kernel_rfl)
    (case o_is_program => k_is)
    (case t9_is_program => exact rfl)
    (case z_is_program => first | exact rfl | kernel_rfl)
    (case r_is_program => first | exact rfl | kernel_rfl)
    (case o_point_of => k_is)
    (case t9_point_of => exact rfl)
    (case z_point_of => first | exact rfl | kernel_rfl)
    (case r_point_of => first | exact rfl | kernel_rfl)
    (case o_is_plain_expression => k_is)
    (case t9_is_plain_expression => exact rfl)
    (case z_is_plain_expression => first | exact rfl | kernel_rfl)
    (case r_is_plain_expression => first | exact rfl | kernel_rfl)
    (case o_is_plain => k_is)
    (case t9_is_plain => exact rfl)
    (case z_is_plain => first | exact rfl | kernel_rfl)
    (case r_is_plain => first | exact rfl | kernel_rfl)
    (case o_law => k_is)
    (case t9_law => exact rfl)
    (case z_law => first | exact rfl | kernel_rfl)
    (case r_law => first | exact rfl | kernel_rfl)
    (case ne_is_name => exact rfl)
    (case ne_is_test => exact rfl)
    (case ne_is_expression => exact rfl)
    (case ne_is_all_early => exact rfl)
    (case ne_nodes_of => exact rfl)
    (case ne_is_program => exact rfl)
    (case ne_point_of => exact rfl)
    (case ne_is_plain_expression => exact rfl)
    (case ne_is_plain => exact rfl)
    (case pg => k_is)
    (case hd => k_is)
    (case po => k_is)
    (case sa => k_is)
    (case mkC => k_is)
    (case kC => k_is)
    (case n0 => k_is)
    (case n1 => k_is)
    (case n2 => k_is)
    (case g_InvalidText => k_is)
    (case k_InvalidText => k_is)
    (case q_InvalidText => first | kernel_rfl | exact rfl)
    (case b_InvalidText => k_is)
    (case t_InvalidText => k_is)
    (case x1_InvalidText => k_is)
    (case x2_InvalidText => k_is)
    (case x3_InvalidText => k_is)
    (case x4_InvalidText => k_is)
    (case x5_InvalidText => k_is)
    (case g_NotText => k_is)
    (case k_NotText => k_is)
    (case q_NotText => first | kernel_rfl | exact rfl)
    (case b_NotText => k_is)
    (case t_NotText => k_is)
    (case x1_NotText => k_is)
    (case x2_NotText => k_is)
    (case x3_NotText => k_is)
    (case x4_NotText => k_is)
    (case x5_NotText => k_is)
    (case x6 => k_is)
    (case x7 => k_is)
    (case gS => k_is)
    (case s1 => k_is)
    (case s2 => k_is)
    (case s3 => k_is)
    (case s4 => k_is)
    (case s5 => k_is)
    (case s6 => first | kernel_rfl | exact rfl)
    (case s7 => first | kernel_rfl | exact rfl)
    (case v_MOST_NUMBER => k_is)
    (case v_MOST_GIVEN => k_is)
    (case v_MOST_MOVE => k_is)
    (case v_MOST_REST => k_is)
    (case v_MOST_LATES => k_is)
    (case v_MOST_FUNCTIONS => k_is)
    (case v_MOST_NODES => k_is)
    (case v_MOST_LETTERS => k_is)
    (case v_MOST_DEEP => k_is)
    (case v_LETTERS => k_is)
    (case v_TAKEN => k_is)
    (case w_TAKEN => k_is)
    (case y_TAKEN => exact rfl)
    (case v_PAIRS => k_is)
    (case w_PAIRS => k_is)
    (case y_PAIRS => exact rfl)
    (case v_MOST_VALUE => k_is)
    (case v_MOST_EARLY => k_is)
    (case v_MOST_PLAIN => k_is)
    (case v_DIGITS_plains => k_is)
    (case v_DIGITS_reading => k_is)
    (case v_ALONE => k_is)
    (case v_LATES_reading => k_is)
    (case w_LATES_reading => k_is)
    (case y_LATES_reading => exact rfl)
    (case v_LATES_texts => k_is)
    (case d1_KINDS => k_is)
    (case d2_KINDS => k_is)
    (case d3_KINDS => first | exact rfl | kernel_rfl)
    (case d4_KINDS => exact rfl)
    (case d5_KINDS => first | exact rfl | kernel_rfl)
    (case d1_SIGNS => k_is)
    (case d2_SIGNS => k_is)
    (case d3_SIGNS => first | exact rfl | kernel_rfl)
    (case d4_SIGNS => exact rfl)
    (case d5_SIGNS => first | exact rfl | kernel_rfl)
    (case b_isinstance => k_is)
    (case b_len => k_is)
    (case b_all => k_is)
    (case b_sum => k_is)
    (case b_int => k_is)
    (case b_str => k_is)
    (case b_tuple => k_is)
    (case b_bool => k_is)
    (case b_list => k_is)
    (case b_max => k_is)
    intro c T
    refine Kv.law_at c ?_ T
    have e := hmg.symm.trans c.g_law
    cases e
    rfl
