import PyProof.Rows.All
import Wide.All
import OpenK.AllK
import Wide.FinOn
import HandS.ForMost
import HandS.ForExc
import HandS.FStr
import HandS.Flow
import HandS.IsInst
import HandS.Zip
import KE.GoesMore
import PySem.Challenge.RW_summitwater_k81_stands_read
set_option Elab.async false
set_option linter.all false
set_option maxRecDepth 100000
set_option maxHeartbeats 400000
/-! Sw, part A: values as trees, a store of what changes, and how both lie in a heap of the layer. -/
namespace Sw
open PySem PySem.Spec PyProof.Rows L2

/-- a value: what never changes as a tree; fl is a list that is only read (the script); ref is a place of the store -/
inductive D where
  | non | bl (b : Bool) | int (i : Int) | str (x : Str) | tup (xs : List D) | fl (xs : List D) | ref (n : Nat)
/-- an object of the store -/
inductive O where
  | lst (xs : List D)
  | ins (C : Str) (fs : List (Str × D))
abbrev Sto := List O
abbrev Sl := List (Option D)
/-- an expression's end: a value, an own exception (class, fields), or a way that isn't carried -/
inductive R (α : Type) where
  | ok (a : α) (S : Sto)
  | er (c : Str) (fs : List (Str × D)) (S : Sto)
  | no
def R.bind {α β : Type} : R α → (α → Sto → R β) → R β
  | .ok a S, f => f a S
  | .er c fs S, _ => .er c fs S
  | .no, _ => .no

def FzL (K : PySem.W.Frag) (H : Hp) (a : Addr) (xs : List V) : Prop :=
  (∃ o, H a = some (.frz o (.lst xs))) ∨
    ∃ (o : Obj) (its : Array Value) (n : Nat), K.lookup a = some o ∧ o.cls = .type "list" ∧ o.dict = none ∧ o.data = .seq its n ∧ its.size ≤ sizeLine ∧ Vals xs its.toList
theorem FzL.sq {K : PySem.W.Frag} {H : Hp} {a : Addr} {xs : List V} (h : FzL K H a xs) : SqL K H a xs := by
  rcases h with ⟨o, h⟩ | h
  · exact .inl (.inr ⟨o, h⟩)
  · exact .inr h

mutual
def Rep (K : PySem.W.Frag) (A : List Addr) (H : Hp) : D → V → Prop
  | .non, v => v = .non
  | .bl b, v => v = .bl b
  | .int i, v => v = .int i
  | .str x, v => v = .str x
  | .tup ds, v => ∃ a vs, v = .ref a ∧ SqT K H a vs ∧ Reps K A H ds vs
  | .fl ds, v => ∃ a vs, v = .ref a ∧ FzL K H a vs ∧ Reps K A H ds vs
  | .ref n, v => ∃ a, v = .ref a ∧ A[n]? = some a
def Reps (K : PySem.W.Frag) (A : List Addr) (H : Hp) : List D → List V → Prop
  | [], vs => vs = []
  | d :: ds, vs => ∃ v r, vs = v :: r ∧ Rep K A H d v ∧ Reps K A H ds r
end

/-- how a heap may have gone on -/
structure Ext (K : PySem.W.Frag) (A : List Addr) (H : Hp) (A' : List Addr) (H' : Hp) : Prop where
  ap : ∃ B, A' = A ++ B ∧ ∀ b ∈ B, H b = none
  kp : ∀ b o, H b = some o → b ∉ A → H' b = some o
  st : ∀ b, H b ≠ none → H' b ≠ none
  tp : ∀ b xs, SqT K H b xs → SqT K H' b xs
  fz : ∀ b xs, FzL K H b xs → FzL K H' b xs

section
variable {K : PySem.W.Frag} {A A' A1 : List Addr} {H H' H1 : Hp}
theorem Ext.refl : Ext K A H A H := ⟨⟨[], by simp, fun _ h => nomatch h⟩, fun _ _ h _ => h, fun _ h => h, fun _ _ h => h, fun _ _ h => h⟩
theorem Ext.trans (a : Ext K A H A1 H1) (b : Ext K A1 H1 A' H') : Ext K A H A' H' := by
  obtain ⟨B, e, n⟩ := a.ap
  obtain ⟨B', e', n'⟩ := b.ap
  refine ⟨⟨B ++ B', by rw [e', e, List.append_assoc], fun c hc => ?_⟩, fun c o h hc => ?_, fun c h => b.st c (a.st c h), fun c xs h => b.tp c xs (a.tp c xs h), fun c xs h => b.fz c xs (a.fz c xs h)⟩
  · rcases List.mem_append.mp hc with h | h
    · exact n c h
    · have q := n' c h
      cases z : H c with
      | none => rfl
      | some o => exact absurd q (a.st c (by rw [z]; simp))
  · refine b.kp c o (a.kp c o h hc) fun z => ?_
    rw [e] at z
    rcases List.mem_append.mp z with z | z
    · exact hc z
    · rw [n c z] at h; cases h
theorem Ext.at_ (x : Ext K A H A' H') {n : Nat} {a : Addr} (h : A[n]? = some a) : A'[n]? = some a := by
  obtain ⟨B, e, _⟩ := x.ap
  rw [e]
  obtain ⟨hn, _⟩ := List.getElem?_eq_some_iff.mp h
  rw [List.getElem?_append_left hn]; exact h
structure Mon (K : PySem.W.Frag) (A : List Addr) (H : Hp) (A' : List Addr) (H' : Hp) : Prop where
  at_ : ∀ (n : Nat) (a : Addr), A[n]? = some a → A'[n]? = some a
  tp : ∀ b xs, SqT K H b xs → SqT K H' b xs
  fz : ∀ b xs, FzL K H b xs → FzL K H' b xs
theorem Ext.mon (x : Ext K A H A' H') : Mon K A H A' H' := ⟨fun _ _ h => x.at_ h, x.tp, x.fz⟩
mutual
theorem Rep.mon (x : Mon K A H A' H') : ∀ (d : D) {v : V}, Rep K A H d v → Rep K A' H' d v
  | .non, _, h => by simp only [Rep] at h ⊢; exact h
  | .bl _, _, h => by simp only [Rep] at h ⊢; exact h
  | .int _, _, h => by simp only [Rep] at h ⊢; exact h
  | .str _, _, h => by simp only [Rep] at h ⊢; exact h
  | .tup ds, _, h => by
    simp only [Rep] at h ⊢
    obtain ⟨a, vs, e, h1, h2⟩ := h
    exact ⟨a, vs, e, x.tp _ _ h1, Reps.mon x ds h2⟩
  | .fl ds, _, h => by
    simp only [Rep] at h ⊢
    obtain ⟨a, vs, e, h1, h2⟩ := h
    exact ⟨a, vs, e, x.fz _ _ h1, Reps.mon x ds h2⟩
  | .ref n, _, h => by
    simp only [Rep] at h ⊢
    obtain ⟨a, e, h1⟩ := h
    exact ⟨a, e, x.at_ _ _ h1⟩
theorem Reps.mon (x : Mon K A H A' H') : ∀ (ds : List D) {vs : List V}, Reps K A H ds vs → Reps K A' H' ds vs
  | [], _, h => by simp only [Reps] at h ⊢; exact h
  | d :: ds, _, h => by
    simp only [Reps] at h ⊢
    obtain ⟨v, r, e, h1, h2⟩ := h
    exact ⟨v, r, e, Rep.mon x d h1, Reps.mon x ds h2⟩
end
theorem Rep.mono (x : Ext K A H A' H') (d : D) {v : V} (h : Rep K A H d v) : Rep K A' H' d v := Rep.mon x.mon d h
theorem Reps.mono (x : Ext K A H A' H') (ds : List D) {vs : List V} (h : Reps K A H ds vs) : Reps K A' H' ds vs := Reps.mon x.mon ds h
theorem Reps.length : ∀ {ds : List D} {vs : List V}, Reps K A H ds vs → vs.length = ds.length
  | [], _, h => by simp only [Reps] at h; rw [h]; rfl
  | d :: ds, _, h => by
    simp only [Reps] at h
    obtain ⟨v, r, e, _, h2⟩ := h
    rw [e, List.length_cons, List.length_cons, Reps.length h2]
theorem Reps.get : ∀ {ds : List D} {vs : List V} {i : Nat} {d : D}, Reps K A H ds vs → ds[i]? = some d → ∃ v, vs[i]? = some v ∧ Rep K A H d v
  | [], _, _, _, _, h => by simp at h
  | d :: ds, _, 0, _, h, e => by
    simp only [Reps] at h
    obtain ⟨v, r, e', h1, _⟩ := h
    simp at e; subst e; subst e'
    exact ⟨v, rfl, h1⟩
  | d :: ds, _, i + 1, _, h, e => by
    simp only [Reps] at h
    obtain ⟨v, r, e', _, h2⟩ := h
    subst e'
    obtain ⟨v', q1, q2⟩ := Reps.get h2 (show ds[i]? = _ by simpa using e)
    exact ⟨v', by simpa using q1, q2⟩
theorem Reps.nil : Reps K A H [] [] := by simp only [Reps]
theorem Reps.cons {d : D} {v : V} {ds : List D} {vs : List V} (h : Rep K A H d v) (r : Reps K A H ds vs) : Reps K A H (d :: ds) (v :: vs) := by
  simp only [Reps]; exact ⟨v, vs, rfl, h, r⟩
theorem Reps.append : ∀ {ds es : List D} {vs ws : List V}, Reps K A H ds vs → Reps K A H es ws → Reps K A H (ds ++ es) (vs ++ ws)
  | [], _, _, _, h, h' => by simp only [Reps] at h; subst h; exact h'
  | d :: ds, _, _, _, h, h' => by
    simp only [Reps] at h
    obtain ⟨v, r, e, h1, h2⟩ := h
    subst e
    exact Reps.cons h1 (Reps.append h2 h')
theorem Reps.take : ∀ {ds : List D} {vs : List V} (n : Nat), Reps K A H ds vs → Reps K A H (ds.take n) (vs.take n)
  | _, _, 0, _ => by simp only [List.take_zero]; exact Reps.nil
  | [], _, n + 1, h => by simp only [Reps] at h; subst h; exact Reps.nil
  | d :: ds, _, n + 1, h => by
    simp only [Reps] at h
    obtain ⟨v, r, e, h1, h2⟩ := h
    subst e
    exact Reps.cons h1 (Reps.take n h2)
theorem Reps.drop : ∀ {ds : List D} {vs : List V} (n : Nat), Reps K A H ds vs → Reps K A H (ds.drop n) (vs.drop n)
  | _, _, 0, h => h
  | [], _, n + 1, h => by simp only [Reps] at h; subst h; exact Reps.nil
  | d :: ds, _, n + 1, h => by
    simp only [Reps] at h
    obtain ⟨v, r, e, h1, h2⟩ := h
    subst e
    exact Reps.drop n h2
theorem Reps.set : ∀ {ds : List D} {vs : List V} (i : Nat) {d : D} {v : V}, Reps K A H ds vs → Rep K A H d v → Reps K A H (ds.set i d) (vs.set i v)
  | [], _, _, _, _, h, _ => by simp only [Reps] at h; subst h; exact Reps.nil
  | d :: ds, _, 0, _, _, h, h' => by
    simp only [Reps] at h
    obtain ⟨v, r, e, h1, h2⟩ := h
    subst e
    exact Reps.cons h' h2
  | d :: ds, _, i + 1, _, _, h, h' => by
    simp only [Reps] at h
    obtain ⟨v, r, e, h1, h2⟩ := h
    subst e
    exact Reps.cons h1 (Reps.set i h2 h')
theorem Reps.erase : ∀ {ds : List D} {vs : List V} (i : Nat), Reps K A H ds vs → Reps K A H (ds.eraseIdx i) (vs.eraseIdx i)
  | [], _, _, h => by simp only [Reps] at h; subst h; exact Reps.nil
  | d :: ds, _, 0, h => by
    simp only [Reps] at h
    obtain ⟨v, r, e, h1, h2⟩ := h
    subst e
    exact h2
  | d :: ds, _, i + 1, h => by
    simp only [Reps] at h
    obtain ⟨v, r, e, h1, h2⟩ := h
    subst e
    exact Reps.cons h1 (Reps.erase i h2)
end

/-! ### the store in the heap -/
def Flds (K : PySem.W.Frag) (A : List Addr) (H : Hp) : List (Str × D) → List (Str × V) → Prop
  | [], vs => vs = []
  | (f, d) :: r, vs => ∃ v q, vs = (f, v) :: q ∧ Rep K A H d v ∧ Flds K A H r q
def ObjR (K : PySem.W.Frag) (mg : Str → Option Value) (A : List Addr) (H : Hp) (a : Addr) : O → Prop
  | .lst ds => ∃ vs, H a = some (.lst vs) ∧ Reps K A H ds vs
  | .ins C fs => ∃ Ca dx vs, mg C = some (.ref Ca) ∧ H a = some (.ins Ca dx vs) ∧ Flds K A H fs vs
structure Sim (K : PySem.W.Frag) (mg : Str → Option Value) (A : List Addr) (S : Sto) (H : Hp) : Prop where
  len : A.length = S.length
  nd : A.Nodup
  ob : ∀ (n : Nat) (a : Addr) (o : O), A[n]? = some a → S[n]? = some o → ObjR K mg A H a o
section
variable {K : PySem.W.Frag} {mg : Str → Option Value} {A A' A1 : List Addr} {H H' H1 : Hp} {S S' : Sto}
theorem Flds.mon (x : Mon K A H A' H') : ∀ {fs : List (Str × D)} {vs : List (Str × V)}, Flds K A H fs vs → Flds K A' H' fs vs
  | [], _, h => h
  | (f, d) :: r, _, ⟨v, q, e, h1, h2⟩ => ⟨v, q, e, Rep.mon x d h1, Flds.mon x h2⟩
theorem Flds.mono (x : Ext K A H A' H') {fs : List (Str × D)} {vs : List (Str × V)} (h : Flds K A H fs vs) : Flds K A' H' fs vs := h.mon x.mon
theorem ObjR.there {a : Addr} {o : O} (h : ObjR K mg A H a o) : ∃ u, H a = some u ∧ (∀ xs, u ≠ .tup xs) ∧ (∀ ob w, u ≠ .frz ob w) := by
  cases o with
  | lst ds => obtain ⟨vs, h, _⟩ := h; exact ⟨_, h, fun _ => nofun, fun _ _ => nofun⟩
  | ins C fs => obtain ⟨_, _, _, _, h, _⟩ := h; exact ⟨_, h, fun _ => nofun, fun _ _ => nofun⟩
theorem Sim.mem (s : Sim K mg A S H) {a : Addr} (h : a ∈ A) : ∃ u, H a = some u ∧ (∀ xs, u ≠ .tup xs) ∧ (∀ ob w, u ≠ .frz ob w) := by
  obtain ⟨n, hn, e⟩ := List.mem_iff_getElem.mp h
  have hs : n < S.length := by rw [← s.len]; exact hn
  exact (s.ob n a S[n] (by rw [List.getElem?_eq_getElem hn, e]) (List.getElem?_eq_getElem hs)).there
/-- an object that is kept, and the heap behind -/
theorem ObjR.mon {a : Addr} {o : O} (x : Mon K A H A' H') (e : H' a = H a) (h : ObjR K mg A H a o) : ObjR K mg A' H' a o := by
  cases o with
  | lst ds => obtain ⟨vs, h, q⟩ := h; exact ⟨vs, e.trans h, Reps.mon x _ q⟩
  | ins C fs => obtain ⟨c, d, vs, h0, h, q⟩ := h; exact ⟨c, d, vs, h0, e.trans h, q.mon x⟩
theorem ObjR.mono {a : Addr} {o : O} (x : Ext K A H A' H') (e : H' a = H a) (h : ObjR K mg A H a o) : ObjR K mg A' H' a o := h.mon x.mon e
theorem sqT_upd {p b : Addr} {o : HO} {xs : List V} (n : ∀ zs, H p ≠ some (.tup zs)) (n2 : ∀ ob w, H p ≠ some (.frz ob w)) (h : SqT K H b xs) : SqT K (upd H p o) b xs := by
  rcases h with (h | ⟨ob, h⟩) | h
  · refine .inl (.inl ?_)
    rw [upd_ne fun z => n xs (by rw [← z]; exact h)]; exact h
  · refine .inl (.inr ⟨ob, ?_⟩)
    rw [upd_ne fun z => n2 ob _ (by rw [← z]; exact h)]; exact h
  · exact .inr h
theorem fzL_upd {p b : Addr} {o : HO} {xs : List V} (n2 : ∀ ob w, H p ≠ some (.frz ob w)) (h : FzL K H b xs) : FzL K (upd H p o) b xs := by
  rcases h with ⟨ob, h⟩ | h
  · refine .inl ⟨ob, ?_⟩
    rw [upd_ne fun z => n2 ob _ (by rw [← z]; exact h)]; exact h
  · exact .inr h
/-- a new object -/
theorem Ext.new {p : Addr} {o : HO} (h : H p = none) : Ext K A H A (upd H p o) := by
  refine ⟨⟨[], by simp, fun _ z => nomatch z⟩, fun b u e _ => ?_, fun b e => ?_, fun b xs => sqT_upd (fun zs z => ?_) (fun ob w z => ?_), fun b xs => fzL_upd (fun ob w z => ?_)⟩
  · rw [upd_ne (ne_of_none e h)]; exact e
  · by_cases z : b = p
    · rw [z, upd_same]; simp
    · rw [upd_ne z]; exact e
  · rw [h] at z; cases z
  · rw [h] at z; cases z
  · rw [h] at z; cases z
theorem Sim.new {p : Addr} {o : HO} (s : Sim K mg A S H) (h : H p = none) : Sim K mg A S (upd H p o) :=
  ⟨s.len, s.nd, fun n a u e1 e2 => (s.ob n a u e1 e2).mono (Ext.new h) (by
    obtain ⟨w, hw, _⟩ := (s.ob n a u e1 e2).there
    rw [upd_ne (ne_of_none hw h)])⟩
theorem Sim.fresh (s : Sim K mg A S H) {p : Addr} (h : H p = none) : p ∉ A := fun z => by
  obtain ⟨u, e, _⟩ := s.mem z
  rw [h] at e; cases e
/-- a new object joins the store -/
theorem Ext.join {p : Addr} {o : HO} (h : H p = none) : Ext K A H (A ++ [p]) (upd H p o) :=
  ⟨⟨[p], rfl, fun b z => by rw [List.mem_singleton.mp z]; exact h⟩, (Ext.new h (K := K) (A := A)).kp, (Ext.new h (K := K) (A := A)).st, (Ext.new h (K := K) (A := A)).tp, (Ext.new h (K := K) (A := A)).fz⟩
/-- an object that stands joins the store -/
theorem Ext.joins {p : Addr} {H0 : Hp} {A0 : List Addr} (x : Ext K A0 H0 A H) (h : H0 p = none) : Ext K A0 H0 (A ++ [p]) H := by
  obtain ⟨B, e, n⟩ := x.ap
  refine ⟨⟨B ++ [p], by rw [e, List.append_assoc], fun b z => ?_⟩, x.kp, x.st, x.tp, x.fz⟩
  rcases List.mem_append.mp z with z | z
  · exact n b z
  · rw [List.mem_singleton.mp z]; exact h
theorem Ext.same {p : Addr} : Ext K A H (A ++ [p]) H → Ext K A H (A ++ [p]) H := id
theorem Sim.join {p : Addr} {o : O} (s : Sim K mg A S H) (hp : p ∉ A) (h : ObjR K mg A H p o) : Sim K mg (A ++ [p]) (S ++ [o]) H := by
  have x : ∀ {a u}, ObjR K mg A H a u → ObjR K mg (A ++ [p]) H a u := fun {a u} q => q.mon ⟨fun n b q => by
      obtain ⟨hn, _⟩ := List.getElem?_eq_some_iff.mp q
      rw [List.getElem?_append_left hn]; exact q, fun _ _ h => h, fun _ _ h => h⟩ rfl
  refine ⟨by rw [List.length_append, List.length_append, s.len]; rfl, ?_, fun n a u e1 e2 => ?_⟩
  · rw [List.nodup_append]
    refine ⟨s.nd, List.nodup_cons.mpr ⟨by simp, List.nodup_nil⟩, fun a ha b hb => ?_⟩
    rw [List.mem_singleton.mp hb]
    intro z; exact hp (z ▸ ha)
  · by_cases hn : n < A.length
    · rw [List.getElem?_append_left hn] at e1
      rw [List.getElem?_append_left (by rw [← s.len]; exact hn)] at e2
      exact x (s.ob n a u e1 e2)
    · have hn2 : n = A.length := by
        have h1 := (List.getElem?_eq_some_iff.mp e1).1
        rw [List.length_append, List.length_singleton] at h1
        omega
      rw [hn2, List.getElem?_append_right (Nat.le_refl _), Nat.sub_self] at e1
      rw [hn2, s.len, List.getElem?_append_right (Nat.le_refl _), Nat.sub_self] at e2
      simp at e1 e2
      rw [← e1, ← e2]
      exact x h
/-- an object of the store is changed -/
theorem Ext.write {n : Nat} {a : Addr} {u o : HO} (hn : A[n]? = some a) (hu : H a = some u) (h1 : ∀ xs, u ≠ .tup xs) (h2 : ∀ ob w, u ≠ .frz ob w) : Ext K A H A (upd H a o) := by
  refine ⟨⟨[], by simp, fun _ z => nomatch z⟩, fun b w e hb => ?_, fun b e => ?_, fun b xs => sqT_upd (fun zs z => ?_) (fun ob w z => ?_), fun b xs => fzL_upd (fun ob w z => ?_)⟩
  · rw [upd_ne fun z => hb (by rw [z]; exact List.mem_of_getElem? hn)]; exact e
  · by_cases z : b = a
    · rw [z, upd_same]; simp
    · rw [upd_ne z]; exact e
  · rw [hu] at z; exact h1 zs (Option.some.inj z)
  · rw [hu] at z; exact h2 ob w (Option.some.inj z)
  · rw [hu] at z; exact h2 ob w (Option.some.inj z)
theorem Sim.write {n : Nat} {a : Addr} {o : HO} {o' : O} (s : Sim K mg A S H) (hn : A[n]? = some a) (h : ∀ (x : Ext K A H A (upd H a o)), ObjR K mg A (upd H a o) a o') : Sim K mg A (S.set n o') (upd H a o) ∧ Ext K A H A (upd H a o) := by
  obtain ⟨u, hu, h1, h2⟩ := s.mem (List.mem_of_getElem? hn)
  have x : Ext K A H A (upd H a o) := Ext.write hn hu h1 h2
  refine ⟨⟨by rw [List.length_set]; exact s.len, s.nd, fun m b w e1 e2 => ?_⟩, x⟩
  by_cases hm : m = n
  · rw [hm, hn] at e1
    have e : a = b := Option.some.inj e1
    subst e
    have hl : n < S.length := by rw [← s.len]; exact (List.getElem?_eq_some_iff.mp hn).1
    rw [hm, List.getElem?_set_self hl] at e2
    rw [← Option.some.inj e2]
    exact h x
  · rw [List.getElem?_set_ne (Ne.symm hm)] at e2
    refine (s.ob m b w e1 e2).mono x ?_
    rw [upd_ne]
    intro z
    rw [z] at e1
    exact hm (nd_ix s.nd e1 hn)
/-- an object beside the store is changed, one that was not there at the start -/
theorem Ext.mut {p : Addr} {o u : HO} {A0 : List Addr} {H0 : Hp} (x : Ext K A0 H0 A H) (h0 : H0 p = none) (hp : H p = some u) (h1 : ∀ xs, u ≠ .tup xs) (h2 : ∀ ob w, u ≠ .frz ob w) : Ext K A0 H0 A (upd H p o) := by
  have n1 : ∀ zs, H p ≠ some (.tup zs) := fun zs z => by rw [hp] at z; exact h1 zs (Option.some.inj z)
  have n2 : ∀ ob w, H p ≠ some (.frz ob w) := fun ob w z => by rw [hp] at z; exact h2 ob w (Option.some.inj z)
  refine ⟨x.ap, fun b w e hb => ?_, fun b e => ?_, fun b xs h => sqT_upd n1 n2 (x.tp b xs h), fun b xs h => fzL_upd n2 (x.fz b xs h)⟩
  · rw [upd_ne (ne_of_none e h0)]; exact x.kp b w e hb
  · by_cases z : b = p
    · rw [z, upd_same]; simp
    · rw [upd_ne z]; exact x.st b e
theorem Sim.mut {p : Addr} {o u : HO} (s : Sim K mg A S H) (hA : p ∉ A) (hp : H p = some u) (h1 : ∀ xs, u ≠ .tup xs) (h2 : ∀ ob w, u ≠ .frz ob w) : Sim K mg A S (upd H p o) ∧ Mon K A H A (upd H p o) := by
  have n1 : ∀ zs, H p ≠ some (.tup zs) := fun zs z => by rw [hp] at z; exact h1 zs (Option.some.inj z)
  have n2 : ∀ ob w, H p ≠ some (.frz ob w) := fun ob w z => by rw [hp] at z; exact h2 ob w (Option.some.inj z)
  have x : Mon K A H A (upd H p o) := ⟨fun _ _ h => h, fun b xs h => sqT_upd n1 n2 h, fun b xs h => fzL_upd n2 h⟩
  exact ⟨⟨s.len, s.nd, fun n a w e1 e2 => (s.ob n a w e1 e2).mon x (upd_ne fun z => hA (by rw [← z]; exact List.mem_of_getElem? e1))⟩, x⟩
end
end Sw

set_option Elab.async false
set_option linter.all false
set_option maxRecDepth 100000
set_option maxHeartbeats 400000
/-! Sw, part B: a small language of trees, and what its texts come to. -/
namespace Sw
open PySem PySem.Spec PyProof.Rows L2

inductive Bop where | add | sub | mul | fdiv | mod | pow
inductive Cop where | eq | ne | lt | le | gt | ge | isin | notin | is | isnot
inductive Bf where | len | list | tuple | sum | min | max | int | str | repr | all | any
inductive Mt where | append | pop0 | popA | insert | index | count | join | split | clear
mutual
inductive E where
  | var (i : Nat) (x : Str)
  | cst (d : D)
  | glb (x : Str)
  | bin (o : Bop) (a b : E)
  | neg (a : E)
  | cmp (o : Cop) (a b : E)
  | chn (o o' : Cop) (a b c : E)
  | band (a b : E) | bor (a b : E) | bnot (a : E)
  | ite (c a b : E)
  | tup (es : EL) | lst (es : EL)
  | ix (a i : E)
  | slc (a : E) (lo hi : EO)
  | call (f : Str) (es : EL)
  | blt (f : Bf) (es : EL)
  | isi (a : E) (ty : String)
  | mth (m : Mt) (o : E) (es : EL)
  | comp (tg : List (Str × Nat)) (it : I) (cond : EO) (elt : E)
  | one (a : E)
  | fst (es : EL)
inductive EL where | nil | cons (e : E) (r : EL)
inductive EO where | none | some (e : E)
inductive I where
  | seq (e : E)
  | rng (es : EL)
  | zip (es : EL)
  | enm (es : EL)
  | rev (e : E)
end

inductive Tg where
  | nam (i : Nat) (x : Str)
  | sub (o i : E)
  | tup (xs : List (Str × Nat))
mutual
inductive S where
  | exp (e : E)
  | asg (t : Tg) (e : E)
  | par (x y : Str × Nat) (a b : E)
  | ret (e : EO)
  | ite (c : E) (a b : SL)
  | fr (tg : List (Str × Nat)) (it : I) (body : SL)
  | whl (c : E) (body : SL)
  | pass
  | dead
inductive SL where | nil | cons (s : S) (r : SL)
end

/-! ### operations -/
def ints? : List D → Option (List Int)
  | [] => some []
  | .int i :: r => (ints? r).map (i :: ·)
  | _ :: _ => none
def bls? : List D → Option (List Bool)
  | [] => some []
  | .bl i :: r => (bls? r).map (i :: ·)
  | _ :: _ => none
def strs? : List D → Option (List Str)
  | [] => some []
  | .str i :: r => (strs? r).map (i :: ·)
  | _ :: _ => none
/-- the items of what is read one behind the other: a list of the store, a tuple, the script -/
def items? (S : Sto) : D → Option (List D)
  | .tup ds => some ds
  | .fl ds => some ds
  | .ref n => match S[n]? with
    | some (.lst ds) => some ds
    | _ => none
  | _ => none
def lst? (S : Sto) : D → Option (Nat × List D)
  | .ref n => match S[n]? with
    | some (.lst ds) => some (n, ds)
    | _ => none
  | _ => none

/-- as data, for ==; the number bounds how deep lists of the store lie in one another -/
def allS (f : D → Option PyData) : List D → Option (List PyData)
  | [] => some []
  | d :: ds => match f d with
    | some p => match allS f ds with
      | some ps => some (p :: ps)
      | none => none
    | none => none
def pyd (S : Sto) : Nat → D → Option PyData
  | 0, _ => none
  | _ + 1, .non => some .none
  | _ + 1, .bl b => some (.bool b)
  | _ + 1, .int i => some (.int i)
  | _ + 1, .str x => some (.str x)
  | n + 1, .tup ds => (allS (pyd S n) ds).map .tuple
  | n + 1, .fl ds => (allS (pyd S n) ds).map .list
  | n + 1, .ref m => match S[m]? with
    | some (.lst ds) => (allS (pyd S n) ds).map .list
    | _ => none
/-- == of two values that are told apart at once -/
def eqs : D → D → Option Bool
  | .int i, .int j => some (decide (i = j))
  | .str x, .str y => some (decide (x = y))
  | .bl x, .bl y => some (decide (x = y))
  | .non, .non => some true
  | .non, .int _ => some false
  | .int _, .non => some false
  | .non, .str _ => some false
  | .str _, .non => some false
  | _, _ => none
def eqD (S : Sto) (x y : D) : Option Bool := match eqs x y with
  | some b => some b
  | none => match pyd S 12 x, pyd S 12 y with
    | some p, some q => if SeqAt.shaped p && SeqAt.shaped q then some (PyData.eqv p q) else none
    | _, _ => none

abbrev CF := Str → List D → Sto → R D
abbrev GL := Str → Option D
def bigI (i j : Int) : Bool := (decide (-(2 ^ 64) < i) && decide (i < 2 ^ 64)) || (decide (-(2 ^ 64) < j) && decide (j < 2 ^ 64))

def opAdd (x y : D) (S : Sto) : R D := match x, y with
  | .int i, .int j => .ok (.int (i + j)) S
  | .str a, .str b => if a.length + b.length ≤ sizeLine then .ok (.str (a ++ b)) S else .no
  | .tup a, .tup b => if a.isEmpty = false ∧ a.length + b.length ≤ sizeLine then .ok (.tup (a ++ b)) S else .no
  | .ref m, .ref n => match S[m]?, S[n]? with
    | some (.lst a), some (.lst b) => if a.length + b.length ≤ sizeLine then .ok (.ref S.length) (S ++ [.lst (a ++ b)]) else .no
    | _, _ => .no
  | _, _ => .no
def opSub (x y : D) (S : Sto) : R D := match x, y with
  | .int i, .int j => .ok (.int (i - j)) S
  | _, _ => .no
def opMul (x y : D) (S : Sto) : R D := match x, y with
  | .int i, .int j => if bigI i j = true then .ok (.int (i * j)) S else .no
  | _, _ => .no
def opFdv (x y : D) (S : Sto) : R D := match x, y with
  | .int i, .int j => if j ≠ 0 ∧ j.natAbs < 1073741824 then .ok (.int (i.fdiv j)) S else .no
  | _, _ => .no
def opMod (x y : D) (S : Sto) : R D := match x, y with
  | .int i, .int j => if j ≠ 0 then .ok (.int (i.fmod j)) S else .no
  | _, _ => .no
def opPow (x y : D) (S : Sto) : R D := match x, y with
  | .int i, .int j => if 0 ≤ j ∧ j ≤ 1000000 ∧ i.natAbs < 2 ^ 64 then .ok (.int (i ^ j.toNat)) S else .no
  | _, _ => .no
def opB (o : Bop) (x y : D) (S : Sto) : R D := match o with
  | .add => opAdd x y S
  | .sub => opSub x y S
  | .mul => opMul x y S
  | .fdiv => opFdv x y S
  | .mod => opMod x y S
  | .pow => opPow x y S
def blR (o : Option Bool) (S : Sto) : R D := match o with
  | some b => .ok (.bl b) S
  | none => .no
def isNon : D → Bool
  | .non => true
  | _ => false
/-- a flat value's == with another one -/
def flat : D → Bool
  | .non => true | .bl _ => true | .int _ => true | .str _ => true | _ => false
def eqF : D → D → Bool
  | .non, .non => true
  | .bl i, .bl j => i == j
  | .bl i, .int j => (if i then 1 else 0) == j
  | .int i, .bl j => i == (if j then 1 else 0)
  | .int i, .int j => i == j
  | .str x, .str y => x == y
  | _, _ => false
def opCI (p : Int → Int → Bool) (x y : D) (S : Sto) : R D := match x, y with
  | .int i, .int j => .ok (.bl (p i j)) S
  | _, _ => .no
/-- one sign -/
def sign? : D → Option Nat
  | .str z => match z.cps.toList with
    | [c] => some c
    | _ => none
  | _ => none
def opIn (x y : D) (S : Sto) : Option Bool := match y with
  | .str z => match sign? x with
    | some c => some (decide (c ∈ z.cps.toList))
    | none => none
  | y => match items? S y with
    | some ds => if flat x && ds.all flat then some (ds.any fun d => eqF d x) else none
    | none => none
def opC (o : Cop) (x y : D) (S : Sto) : R D := match o with
  | .eq => blR (eqD S x y) S
  | .ne => blR ((eqD S x y).map (!·)) S
  | .lt => opCI (fun i j => decide (i < j)) x y S
  | .le => opCI (fun i j => decide (i ≤ j)) x y S
  | .gt => opCI (fun i j => decide (j < i)) x y S
  | .ge => opCI (fun i j => decide (j ≤ i)) x y S
  | .is => if isNon y then .ok (.bl (isNon x)) S else .no
  | .isnot => if isNon y then .ok (.bl (!isNon x)) S else .no
  | .isin => blR (opIn x y S) S
  | .notin => blR ((opIn x y S).map (!·)) S

def opI (x i : D) (S : Sto) : R D := match i with
  | .int k => match x with
    | .str z => if z.length ≤ sizeLine then match atI z.cps.toList k with
        | some c => .ok (.str ⟨#[c]⟩) S
        | none => .no
      else .no
    | x => match items? S x with
      | some ds => match atI ds k with
        | some d => .ok d S
        | none => .no
      | none => .no
  | _ => .no
def cutD (xs : List D) (lo hi : Option Int) : List D := (xs.drop (HT.sIx xs.length 0 lo)).take (HT.sIx xs.length xs.length hi - HT.sIx xs.length 0 lo)
def opS (x : D) (lo hi : Option Int) (S : Sto) : R D := match x with
  | .str z => if z.length ≤ sizeLine then .ok (.str (cutS z lo hi)) S else .no
  | .tup ds => if HT.sIx ds.length 0 lo = 0 ∧ HT.sIx ds.length ds.length hi = ds.length then .no else .ok (.tup (cutD ds lo hi)) S
  | x => match items? S x with
    | some ds => .ok (.ref S.length) (S ++ [.lst (cutD ds lo hi)])
    | none => .no
def fLen (x : D) (S : Sto) : R D := match x with
  | .str z => if z.length ≤ sizeLine then .ok (.int z.length) S else .no
  | x => match items? S x with
    | some ds => .ok (.int ds.length) S
    | none => .no
def fLst (x : D) (S : Sto) : R D := match items? S x with
  | some ds => .ok (.ref S.length) (S ++ [.lst ds])
  | none => .no
def fTup (x : D) (S : Sto) : R D := match items? S x with
  | some ds => .ok (.tup ds) S
  | none => .no
def fSum (x : D) (S : Sto) : R D := match lst? S x with
  | some (_, ds) => match ints? ds with
    | some ns => .ok (.int ns.sum) S
    | none => .no
  | none => .no
def f2I (g : Int → Int → Int) (x y : D) (S : Sto) : R D := match x, y with
  | .int i, .int j => .ok (.int (g i j)) S
  | _, _ => .no
def fInt (x : D) (S : Sto) : R D := match x with
  | .int i => .ok (.int i) S
  | .bl b => .ok (.int (if b then 1 else 0)) S
  | .str z => match PySem.intText? z with
    | some n => if z.length ≤ 640 then .ok (.int n) S else .no
    | none => .no
  | _ => .no
def fStr (x : D) (S : Sto) : R D := match x with
  | .int i => if i.natAbs.log2 < 1920 then .ok (.str (toString i)) S else .no
  | _ => .no
def fAA (g : List Bool → Bool) (x : D) (S : Sto) : R D := match lst? S x with
  | some (_, ds) => match bls? ds with
    | some bs => .ok (.bl (g bs)) S
    | none => .no
  | none => .no
def opF (f : Bf) (xs : List D) (S : Sto) : R D := match xs with
  | [x] => match f with
    | .len => fLen x S
    | .list => fLst x S
    | .tuple => fTup x S
    | .sum => fSum x S
    | .int => fInt x S
    | .str => fStr x S
    | .all => fAA (fun bs => bs.all id) x S
    | .any => fAA (fun bs => bs.any id) x S
    | _ => .no
  | [x, y] => match f with
    | .min => f2I (fun i j => if j < i then j else i) x y S
    | .max => f2I (fun i j => if j > i then j else i) x y S
    | _ => .no
  | _ => .no
def tyD (S : Sto) : D → Option String
  | .non => some "NoneType" | .bl _ => some "bool" | .int _ => some "int" | .str _ => some "str" | .tup _ => some "tuple" | .fl _ => none
  | .ref n => match S[n]? with
    | some (.lst _) => some "list"
    | _ => none
/-- isinstance of a built-in type (as the layer reckons it) -/
def kitS (a b : String) : Option Bool := L2.kitB a b
def opT (x : D) (ty : String) (S : Sto) : R D := match tyD S x with
  | some t => match kitS t ty with
    | some b => .ok (.bl b) S
    | none => .no
  | none => .no
def mApp (o x : D) (S : Sto) : R D := match lst? S o with
  | some (n, ds) => if ds.length < sizeLine then .ok .non (S.set n (.lst (ds ++ [x]))) else .no
  | none => .no
def mPop (o : D) (S : Sto) : R D := match lst? S o with
  | some (n, ds) => match ds[ds.length - 1]? with
    | some d => .ok d (S.set n (.lst ds.dropLast))
    | none => .no
  | none => .no
def mPopA (o x : D) (S : Sto) : R D := match x with
  | .int i => match lst? S o with
    | some (n, ds) => if -(2 ^ 63) ≤ i ∧ i < 2 ^ 63 then match seqIndex? i ds.length with
        | some k => match ds[k]? with
          | some d => .ok d (S.set n (.lst (ds.eraseIdx k)))
          | none => .no
        | none => .no
      else .no
    | none => .no
  | _ => .no
def mJoin (o x : D) (S : Sto) : R D := match o with
  | .str a => match items? S x with
    | some ds => match strs? ds with
      | some ys => if (ys.map (·.length)).sum + ys.length * a.length ≤ 16777216 then .ok (.str (Txt.join a ys)) S else .no
      | none => .no
    | none => .no
  | _ => .no
def mSplit (o x : D) (S : Sto) : R D := match o, x with
  | .str a, .str b => if (b.length == 0) = false ∧ a.length + 2 ≤ sizeLine then .ok (.ref S.length) (S ++ [.lst ((Txt.split a b).map D.str)]) else .no
  | _, _ => .no
def opM (m : Mt) (o : D) (xs : List D) (S : Sto) : R D := match xs with
  | [] => match m with
    | .pop0 => mPop o S
    | _ => .no
  | [x] => match m with
    | .append => mApp o x S
    | .popA => mPopA o x S
    | .join => mJoin o x S
    | .split => mSplit o x S
    | _ => .no
  | _ => .no
def isS : D → Bool
  | .str _ => true
  | _ => false
/-- the receiver is of the method's type -/
def rcv (m : Mt) (o : D) (S : Sto) : Bool := match m with
  | .append => (lst? S o).isSome
  | .pop0 => (lst? S o).isSome
  | .popA => (lst? S o).isSome
  | .join => isS o
  | .split => isS o
  | _ => false
def fmt (d : D) : Option Str := match d with
  | .str y => if y.length ≤ sizeLine then some y else none
  | .int i => if i.natAbs.log2 < 1920 then some (toString i) else none
  | _ => none

/-! ### the language's readings -/
abbrev Srcs := List (Nat × List D)
noncomputable def stab (S : Sto) (c : Srcs) : Bool := @decide (∀ p ∈ c, S[p.1]? = some (.lst p.2)) (Classical.propDecidable _)
def bindT (tg : List (Str × Nat)) (d : D) (σ : Sl) : Option Sl := match tg with
  | [(_, i)] => some (σ.set i (some d))
  | tg => match d with
    | .tup ds => if ds.length = tg.length then some ((tg.zip ds).foldl (fun σ p => σ.set p.1.2 (some p.2)) σ) else none
    | _ => none
def R.quiet {α : Type} : R α → R α
  | .er _ _ _ => .no
  | r => r
def asBl : D → Sto → R Bool
  | .bl b, S => .ok b S
  | _, _ => .no
/-- the items of what is walked, and the lists of the store that it leans on -/
def walk (S : Sto) : D → Option (List D × Srcs)
  | .tup ds => some (ds, [])
  | .fl ds => some (ds, [])
  | .str x => some (x.cps.toList.map fun c => .str ⟨#[c]⟩, [])
  | .ref n => match S[n]? with
    | some (.lst ds) => some (ds, [(n, ds)])
    | _ => none
  | _ => none
def wlk (S : Sto) (d : D) : R (List D × Srcs) := match walk S d with
  | some p => .ok p S
  | none => .no
def rngD (lo : Int) (n : Nat) : List D := (List.range n).map fun (k : Nat) => D.int (lo + (k : Int))
def fits62 (i : Int) : Bool := decide (-(2 ^ 62) ≤ i) && decide (i < 2 ^ 62)
def opR (xs : List D) (S : Sto) : R (List D × Srcs) := match xs with
  | [.int j] => if fits62 j = true then .ok (rngD 0 j.toNat, []) S else .no
  | [.int i, .int j] => if fits62 i = true ∧ fits62 j = true then .ok (rngD i (j - i).toNat, []) S else .no
  | _ => .no
def seqs? (S : Sto) : D → Option (Bool × List D × Srcs)
  | .tup ds => some (true, ds, [])
  | .fl ds => some (false, ds, [])
  | .ref n => match S[n]? with
    | some (.lst ds) => some (false, ds, [(n, ds)])
    | _ => none
  | _ => none
/-- the items with their places -/
def enmD (ds : List D) : List D := ds.zipIdx.map fun p => .tup [.int (p.2 : Nat), p.1]
def opN (xs : List D) (S : Sto) : R (List D × Srcs) := match xs with
  | [x] => match seqs? S x with
    | some (false, ds, c) => .ok (enmD ds, c) S
    | _ => .no
  | _ => .no
def opZ2 (a b : D) (S : Sto) : R (List D × Srcs) := match seqs? S a, seqs? S b with
  | some (k, x, c), some (k', y, c') => if k = k' then .ok (((x.zip y).map fun p => .tup [p.1, p.2]), c ++ c') S else .no
  | _, _ => .no
def opZ3 (a b c : D) (S : Sto) : R (List D × Srcs) := match a, b, c with
  | .tup x, .tup y, .tup z => .ok ((x.zip (y.zip z)).map fun p => .tup [p.1, p.2.1, p.2.2], []) S
  | _, _, _ => .no
def opZ (xs : List D) (S : Sto) : R (List D × Srcs) := match xs with
  | [a, b] => opZ2 a b S
  | [a, b, c] => opZ3 a b c S
  | _ => .no

mutual
noncomputable def evE (cf : CF) (gl : GL) : E → Sl → Sto → R D
  | .var i _, σ, S => match σ[i]? with
    | some (some d) => .ok d S
    | _ => .no
  | .cst d, _, S => .ok d S
  | .glb x, _, S => match gl x with
    | some d => .ok d S
    | none => .no
  | .bin o a b, σ, S => (evE cf gl a σ S).bind fun x S1 => (evE cf gl b σ S1).bind fun y S2 => opB o x y S2
  | .neg a, σ, S => (evE cf gl a σ S).bind fun x S1 => match x with
    | .int i => .ok (.int (-i)) S1
    | _ => .no
  | .cmp o a b, σ, S => (evE cf gl a σ S).bind fun x S1 => (evE cf gl b σ S1).bind fun y S2 => opC o x y S2
  | .chn o o' a b c, σ, S => (evE cf gl a σ S).bind fun x S1 => (evE cf gl b σ S1).bind fun y S2 => (opC o x y S2).bind fun z S3 => match z with
    | .bl true => (evE cf gl c σ S3).bind fun w S4 => opC o' y w S4
    | .bl false => .ok (.bl false) S3
    | _ => .no
  | .band a b, σ, S => (evE cf gl a σ S).bind fun x S1 => match x with
    | .bl true => evE cf gl b σ S1
    | .bl false => .ok (.bl false) S1
    | _ => .no
  | .bor a b, σ, S => (evE cf gl a σ S).bind fun x S1 => match x with
    | .bl true => .ok (.bl true) S1
    | .bl false => evE cf gl b σ S1
    | _ => .no
  | .bnot a, σ, S => (evE cf gl a σ S).bind fun x S1 => match x with
    | .bl b => .ok (.bl (!b)) S1
    | _ => .no
  | .ite c a b, σ, S => (evE cf gl c σ S).bind fun x S1 => match x with
    | .bl true => evE cf gl a σ S1
    | .bl false => evE cf gl b σ S1
    | _ => .no
  | .tup es, σ, S => (evL cf gl es σ S).bind fun xs S1 => if xs.length ≤ sizeLine then .ok (.tup xs) S1 else .no
  | .lst es, σ, S => (evL cf gl es σ S).bind fun xs S1 => if xs.length ≤ sizeLine then .ok (.ref S1.length) (S1 ++ [.lst xs]) else .no
  | .ix a i, σ, S => (evE cf gl a σ S).bind fun x S1 => (evE cf gl i σ S1).bind fun y S2 => opI x y S2
  | .slc a lo hi, σ, S => (evE cf gl a σ S).bind fun x S1 => (evO cf gl lo σ S1).bind fun l S2 => (evO cf gl hi σ S2).bind fun h S3 => opS x l h S3
  | .call f es, σ, S => (evL cf gl es σ S).bind fun xs S1 => cf f xs S1
  | .blt f es, σ, S => (evL cf gl es σ S).bind fun xs S1 => opF f xs S1
  | .isi a ty, σ, S => (evE cf gl a σ S).bind fun x S1 => opT x ty S1
  | .mth m o es, σ, S => (evE cf gl o σ S).bind fun x S1 => if rcv m x S1 = true then (evL cf gl es σ S1).bind fun xs S2 => opM m x xs S2 else .no
  | .one a, σ, S => evE cf gl a σ S
  | .comp tg it cond elt, σ, S => (evI cf gl it σ S).bind fun p S1 =>
    (compL (fun σ S => (evC cf gl cond σ S).quiet) (fun σ S => (evE cf gl elt σ S).quiet) tg p.2 p.1 σ S1 []).bind fun ds S2 => .ok (.ref S2.length) (S2 ++ [.lst ds])
  | .fst es, σ, S => evF cf gl es σ S Str.empty
noncomputable def evL (cf : CF) (gl : GL) : EL → Sl → Sto → R (List D)
  | .nil, _, S => .ok [] S
  | .cons e r, σ, S => (evE cf gl e σ S).bind fun x S1 => (evL cf gl r σ S1).bind fun xs S2 => .ok (x :: xs) S2
noncomputable def evO (cf : CF) (gl : GL) : EO → Sl → Sto → R (Option Int)
  | .none, _, S => .ok none S
  | .some e, σ, S => (evE cf gl e σ S).bind fun x S1 => match x with
    | .int i => .ok (some i) S1
    | _ => .no
noncomputable def evC (cf : CF) (gl : GL) : EO → Sl → Sto → R Bool
  | .none, _, S => .ok true S
  | .some e, σ, S => (evE cf gl e σ S).bind asBl
noncomputable def evF (cf : CF) (gl : GL) : EL → Sl → Sto → Str → R D
  | .nil, _, S, acc => .ok (.str acc) S
  | .cons e r, σ, S, acc => (evE cf gl e σ S).bind fun x S1 => match fmt x with
    | some y => if (acc ++ y).length ≤ sizeLine then evF cf gl r σ S1 (acc ++ y) else .no
    | none => .no
noncomputable def evI (cf : CF) (gl : GL) : I → Sl → Sto → R (List D × Srcs)
  | .seq e, σ, S => (evE cf gl e σ S).bind fun x S1 => wlk S1 x
  | .rng es, σ, S => (evL cf gl es σ S).bind fun xs S1 => opR xs S1
  | .zip es, σ, S => (evL cf gl es σ S).bind fun xs S1 => opZ xs S1
  | .enm es, σ, S => (evL cf gl es σ S).bind fun xs S1 => opN xs S1
  | .rev e, σ, S => .no
noncomputable def compL (cond : Sl → Sto → R Bool) (elt : Sl → Sto → R D) (tg : List (Str × Nat)) (c : Srcs) : List D → Sl → Sto → List D → R (List D)
  | [], _, S, acc => if stab S c = true then .ok acc S else .no
  | d :: ds, σ, S, acc => if stab S c = true then match bindT tg d σ with
      | some σ1 => (cond σ1 S).bind fun b S1 => if b = true then (elt σ1 S1).bind fun y S2 => if acc.length < sizeLine then compL cond elt tg c ds σ S2 (acc ++ [y]) else .no else compL cond elt tg c ds σ S1 acc
      | none => .no
    else .no
end

theorem bind_ok {α β : Type} {a : α} {S : Sto} {f : α → Sto → R β} : (R.ok a S).bind f = f a S := rfl
theorem bind_er {α β : Type} {c : Str} {fs : List (Str × D)} {S : Sto} {f : α → Sto → R β} : (R.er c fs S).bind f = .er c fs S := rfl
theorem bind_no {α β : Type} {f : α → Sto → R β} : (R.no).bind f = .no := rfl
theorem quiet_ok {α : Type} {a : α} {S : Sto} : (R.ok a S).quiet = .ok a S := rfl

/-! ### statements -/
inductive RS where
  | nx (σ : Sl) (S : Sto)
  | rt (d : D) (S : Sto)
  | er (c : Str) (fs : List (Str × D)) (σ : Sl) (S : Sto)
  | no
def R.st {α : Type} (r : R α) (σ : Sl) (f : α → Sto → RS) : RS := match r with
  | .ok a S => f a S
  | .er c fs S => .er c fs σ S
  | .no => .no
def RS.bind (r : RS) (f : Sl → Sto → RS) : RS := match r with
  | .nx σ S => f σ S
  | r => r
noncomputable def forL (f : D → Sl → Sto → RS) (c : Srcs) : List D → Sl → Sto → RS
  | [], σ, S => if stab S c = true then .nx σ S else .no
  | d :: ds, σ, S => if stab S c = true then (f d σ S).bind fun σ' S' => forL f c ds σ' S' else .no
def whlN (c : Sl → Sto → R D) (b : Sl → Sto → RS) : Nat → Sl → Sto → Option RS
  | 0, _, _ => none
  | n + 1, σ, S => match c σ S with
    | .ok (.bl true) S1 => match b σ S1 with
      | .nx σ' S' => whlN c b n σ' S'
      | r => some r
    | .ok (.bl false) S1 => some (.nx σ S1)
    | .er x fs S1 => some (.er x fs σ S1)
    | _ => some .no
noncomputable def whl (c : Sl → Sto → R D) (b : Sl → Sto → RS) (σ : Sl) (S : Sto) : RS :=
  match Classical.propDecidable (∃ n r, whlN c b n σ S = some r) with
  | .isTrue h => ((whlN c b (Classical.choose h) σ S).getD .no)
  | .isFalse _ => .no
theorem whlN_mono {c : Sl → Sto → R D} {b : Sl → Sto → RS} : ∀ {n : Nat} {σ : Sl} {S : Sto} {r : RS}, whlN c b n σ S = some r → ∀ m, n ≤ m → whlN c b m σ S = some r
  | 0, _, _, _, h, _, _ => by simp [whlN] at h
  | n + 1, σ, S, r, h, 0, hm => by omega
  | n + 1, σ, S, r, h, m + 1, hm => by
    simp only [whlN] at h ⊢
    cases hc : c σ S with
    | no => rw [hc] at h; simpa using h
    | er x fs S1 => rw [hc] at h; simpa using h
    | ok d S1 =>
      rw [hc] at h
      cases d with
      | bl k =>
        cases k with
        | false => simpa using h
        | true =>
          simp only at h ⊢
          cases hb : b σ S1 with
          | nx σ' S' =>
            rw [hb] at h
            simp only at h ⊢
            exact whlN_mono h m (by omega)
          | rt d S' => rw [hb] at h; simpa using h
          | er x fs σ' S' => rw [hb] at h; simpa using h
          | no => rw [hb] at h; simpa using h
      | _ => simpa using h
theorem whl_of {c : Sl → Sto → R D} {b : Sl → Sto → RS} {n : Nat} {σ : Sl} {S : Sto} {r : RS} (h : whlN c b n σ S = some r) : whl c b σ S = r := by
  unfold whl
  split
  · rename_i h' _
    obtain ⟨r', e⟩ := Classical.choose_spec h'
    rw [e]
    have e1 := whlN_mono e (max (Classical.choose h') n) (Nat.le_max_left _ _)
    have e2 := whlN_mono h (max (Classical.choose h') n) (Nat.le_max_right _ _)
    rw [e1] at e2
    exact Option.some.inj e2
  · rename_i h' _
    exact absurd ⟨n, r, h⟩ h'
theorem whl_some {c : Sl → Sto → R D} {b : Sl → Sto → RS} {σ : Sl} {S : Sto} (h : whl c b σ S ≠ .no) : ∃ n, whlN c b n σ S = some (whl c b σ S) := by
  by_cases q : ∃ n r, whlN c b n σ S = some r
  · obtain ⟨n, r, e⟩ := q
    exact ⟨n, by rw [whl_of e]; exact e⟩
  · refine absurd ?_ h
    unfold whl
    split
    · rename_i h' _; exact absurd h' q
    · rfl
/-- the while's one turn -/
theorem whl_eq (c : Sl → Sto → R D) (b : Sl → Sto → RS) (σ : Sl) (S : Sto) : whl c b σ S = (c σ S).st σ fun d S1 => match d with
    | .bl true => (b σ S1).bind fun σ' S' => whl c b σ' S'
    | .bl false => .nx σ S1
    | _ => .no := by
  cases hc : c σ S with
  | no => exact whl_of (n := 1) (by simp only [whlN, hc, R.st])
  | er x fs S1 => exact whl_of (n := 1) (by simp only [whlN, hc, R.st])
  | ok d S1 =>
    cases d with
    | bl k =>
      cases k with
      | false => exact whl_of (n := 1) (by simp only [whlN, hc, R.st])
      | true =>
        cases hb : b σ S1 with
        | rt d S' => exact whl_of (n := 1) (by simp only [whlN, hc, R.st, hb, RS.bind])
        | er x fs σ' S' => exact whl_of (n := 1) (by simp only [whlN, hc, R.st, hb, RS.bind])
        | no => exact whl_of (n := 1) (by simp only [whlN, hc, R.st, hb, RS.bind])
        | nx σ' S' =>
          simp only [R.st, hb, RS.bind]
          by_cases q : whl c b σ' S' = .no
          · by_cases z : ∃ n r, whlN c b n σ' S' = some r
            · obtain ⟨n, r, e⟩ := z
              exact whl_of (n := n + 1) (by simp only [whlN, hc, hb]; rw [e, whl_of e])
            · rw [q]
              unfold whl
              split
              · rename_i h' _
                obtain ⟨n, r, e⟩ := h'
                cases n with
                | zero => simp [whlN] at e
                | succ n => simp only [whlN, hc, hb] at e; exact absurd ⟨n, r, e⟩ z
              · rfl
          · obtain ⟨n, e⟩ := whl_some q
            exact whl_of (n := n + 1) (by simp only [whlN, hc, hb]; exact e)
    | _ => exact whl_of (n := 1) (by simp only [whlN, hc, R.st])
/-- o[i] = d -/
def opSet (o i d : D) (S : Sto) (f : Sto → RS) : RS := match lst? S o, i with
  | some (n, ds), .int k => match ixN ds.length k with
    | some j => f (S.set n (.lst (ds.set j d)))
    | none => .no
  | _, _ => .no
def bindU (S : Sto) (tg : List (Str × Nat)) (d : D) (σ : Sl) : Option Sl := match items? S d with
  | some ds => if ds.length = tg.length then some ((tg.zip ds).foldl (fun σ p => σ.set p.1.2 (some p.2)) σ) else none
  | none => none
mutual
noncomputable def evS (cf : CF) (gl : GL) : S → Sl → Sto → RS
  | .exp e, σ, S => (evE cf gl e σ S).st σ fun _ S1 => .nx σ S1
  | .asg t e, σ, S => (evE cf gl e σ S).st σ fun d S1 => match t with
    | .nam i _ => .nx (σ.set i (some d)) S1
    | .sub o i => (evE cf gl o σ S1).st σ fun x S2 => (evE cf gl i σ S2).st σ fun y S3 => opSet x y d S3 fun S4 => .nx σ S4
    | .tup xs => match bindU S1 xs d σ with
      | some σ1 => .nx σ1 S1
      | none => .no
  | .par x y a b, σ, S => (evE cf gl a σ S).st σ fun d S1 => (evE cf gl b σ S1).st σ fun e S2 => .nx ((σ.set x.2 (some d)).set y.2 (some e)) S2
  | .ret .none, _, S => .rt .non S
  | .ret (.some e), σ, S => (evE cf gl e σ S).st σ fun d S1 => .rt d S1
  | .ite c a b, σ, S => (evE cf gl c σ S).st σ fun d S1 => match d with
    | .bl true => evB cf gl a σ S1
    | .bl false => evB cf gl b σ S1
    | _ => .no
  | .fr tg it body, σ, S => (evI cf gl it σ S).st σ fun p S1 => forL (fun d σ S => match bindT tg d σ with
    | some σ1 => evB cf gl body σ1 S
    | none => .no) p.2 p.1 σ S1
  | .whl c body, σ, S => whl (fun σ S => evE cf gl c σ S) (fun σ S => evB cf gl body σ S) σ S
  | .pass, σ, S => .nx σ S
  | .dead, _, _ => .no
noncomputable def evB (cf : CF) (gl : GL) : SL → Sl → Sto → RS
  | .nil, σ, S => .nx σ S
  | .cons s r, σ, S => (evS cf gl s σ S).bind fun σ1 S1 => evB cf gl r σ1 S1
end
/-- a def: its parameters, its names by slot (parameters first), its body -/
structure Df where
  ps : List Str
  N : List Str
  body : SL
abbrev Tab := List (Str × Df)
noncomputable def callN (T : Tab) (gl : GL) : Nat → CF
  | 0 => fun _ _ _ => .no
  | n + 1 => fun f ds S => match T.lookup f with
    | none => .no
    | some d => if ds.length = d.ps.length then match evB (callN T gl n) gl d.body (ds.map some ++ List.replicate (d.N.length - ds.length) none) S with
        | .nx _ S1 => .ok .non S1
        | .rt v S1 => .ok v S1
        | .er c fs _ S1 => .er c fs S1
        | .no => .no
      else .no
end Sw

set_option Elab.async false
set_option linter.all false
set_option maxRecDepth 100000
set_option maxHeartbeats 400000
/-! Sw, part C: what the language's ends say of the layer's readings. -/
namespace Sw
open PySem PySem.Spec PyProof.Rows L2

def XRep (K : PySem.W.Frag) (mg : Str → Option Value) (A : List Addr) (H : Hp) (c : Str) (fs : List (Str × D)) (cls : Value) (d : Option Addr) : Prop :=
  mg c = some cls ∧ ((fs = [] ∧ d = none) ∨ ∃ dx vs, d = some dx ∧ H dx = some (.xd vs) ∧ Flds K A H fs vs)
def PostG {α β : Type} (K : PySem.W.Frag) (mg : Str → Option Value) (rel : List Addr → Hp → α → β → Prop) (E : XK) (A : List Addr) (H : Hp) (r : R α) (Q : β → Hp → Prop) : Prop := match r with
  | .ok a S => ∀ A' H' b, Ext K A H A' H' → Sim K mg A' S H' → rel A' H' a b → Q b H'
  | .er c fs S => ∀ A' H' cls d, Ext K A H A' H' → Sim K mg A' S H' → XRep K mg A' H' c fs cls d → E cls d H'
  | .no => False
abbrev relD (K : PySem.W.Frag) : List Addr → Hp → D → V → Prop := fun A H d v => Rep K A H d v
abbrev relL (K : PySem.W.Frag) : List Addr → Hp → List D → List V → Prop := fun A H d v => Reps K A H d v
abbrev relB : List Addr → Hp → Bool → Bool → Prop := fun _ _ a b => a = b
abbrev relO : List Addr → Hp → Option Int → Option Int → Prop := fun _ _ a b => a = b
section
variable {K : PySem.W.Frag} {mg : Str → Option Value} {A A' : List Addr} {H H' : Hp} {E : XK} {α β γ δ : Type} {rel : List Addr → Hp → α → β → Prop} {rel' : List Addr → Hp → γ → δ → Prop}
theorem PostG.imp {r : R α} {Q Q' : β → Hp → Prop} (h : PostG K mg rel E A H r Q) (k : ∀ b H', Q b H' → Q' b H') : PostG K mg rel E A H r Q' := by
  cases r with
  | ok a S => exact fun A' H' b x s q => k b H' (h A' H' b x s q)
  | er c fs S => exact h
  | no => exact h
theorem PostG.later {r : R α} {Q : β → Hp → Prop} (x : Ext K A H A' H') (h : PostG K mg rel E A H r Q) : PostG K mg rel E A' H' r Q := by
  cases r with
  | ok a S => exact fun A2 H2 b x2 s q => h A2 H2 b (x.trans x2) s q
  | er c fs S => exact fun A2 H2 c d x2 s q => h A2 H2 c d (x.trans x2) s q
  | no => exact h
theorem PostG.bind {r : R α} {f : α → Sto → R γ} {Q : δ → Hp → Prop} (h : PostG K mg rel' E A H (r.bind f) Q) :
    PostG K mg rel E A H r (fun b H' => ∃ A' S' a, Ext K A H A' H' ∧ Sim K mg A' S' H' ∧ rel A' H' a b ∧ PostG K mg rel' E A' H' (f a S') Q) := by
  cases r with
  | ok a S => exact fun A2 H2 b x s q => ⟨A2, S, a, x, s, q, PostG.later x h⟩
  | er c fs S => exact h
  | no => exact h
end

def EnvR (K : PySem.W.Frag) (A : List Addr) (H : Hp) (env : Sl) (σ : L2.St) : Prop := env.length = σ.length ∧ ∀ (i : Nat) d, env[i]? = some (some d) → ∃ v, σ[i]? = some (some v) ∧ Rep K A H d v
theorem EnvR.mono {K : PySem.W.Frag} {A A' : List Addr} {H H' : Hp} {env : Sl} {σ : L2.St} (x : Ext K A H A' H') (h : EnvR K A H env σ) : EnvR K A' H' env σ :=
  ⟨h.1, fun i d e => let ⟨v, h1, h2⟩ := h.2 i d e; ⟨v, h1, h2.mono x⟩⟩
theorem EnvR.set {K : PySem.W.Frag} {A : List Addr} {H : Hp} {env : Sl} {σ : L2.St} (h : EnvR K A H env σ) (j : Nat) {d : D} {v : V} (r : Rep K A H d v) : EnvR K A H (env.set j (some d)) (σ.set j (some v)) := by
  refine ⟨by rw [List.length_set, List.length_set]; exact h.1, fun i e q => ?_⟩
  by_cases hi : j = i
  · subst hi
    by_cases hl : j < env.length
    · rw [List.getElem?_set_self hl] at q
      rw [List.getElem?_set_self (by rw [← h.1]; exact hl)]
      cases q
      exact ⟨v, rfl, r⟩
    · rw [List.getElem?_eq_none (by simpa using hl)] at q; cases q
  · rw [List.getElem?_set_ne hi] at q
    rw [List.getElem?_set_ne hi]
    exact h.2 i e q

/-! ### the readings -/
def rE (X : Cx) (W : WX) (m : Sl → Sto → R D) : TE := fun σ H Q => ∃ A S env, EnvR X.K A H env σ ∧ Sim X.K X.mg A S H ∧ PostG X.K X.mg (relD X.K) (WE W σ) A H (m env S) Q
def rT (X : Cx) (W : WX) (m : Sl → Sto → R D) : TT := fun σ H Q => ∃ A S env, EnvR X.K A H env σ ∧ Sim X.K X.mg A S H ∧ PostG X.K X.mg relB (WE W σ) A H ((m env S).bind asBl) Q
def rL (X : Cx) (W : WX) (m : Sl → Sto → R (List D)) : TA := fun σ H Q => ∃ A S env, EnvR X.K A H env σ ∧ Sim X.K X.mg A S H ∧ PostG X.K X.mg (relL X.K) (WE W σ) A H (m env S) Q
def rO (X : Cx) (W : WX) (m : Sl → Sto → R (Option Int)) : TO := fun σ H Q => ∃ A S env, EnvR X.K A H env σ ∧ Sim X.K X.mg A S H ∧ PostG X.K X.mg relO (WE W σ) A H (m env S) Q
theorem PE.imp {X : Cx} {e : Expr} {t t' : TE} (h : PE X e t) (k : ∀ σ H Q, t' σ H Q → t σ H Q) : PE X e t' := ⟨fun pins s σ H Q I q => h.run pins s σ H Q I (k σ H Q q)⟩
theorem PT.imp {X : Cx} {e : Expr} {t t' : TT} (h : PT X e t) (k : ∀ σ H Q, t' σ H Q → t σ H Q) : PT X e t' := ⟨fun pins s σ H Q I q => h.run pins s σ H Q I (k σ H Q q)⟩
theorem PW.imp {X : Cx} {e : Expr} {t t' : TT} (h : PW X e t) (k : ∀ σ H Q, t' σ H Q → t σ H Q) : PW X e t' := ⟨fun wh pins s σ H Q I q => h.run wh pins s σ H Q I (k σ H Q q)⟩
theorem PA.imp {X : Cx} {e : List Expr} {t t' : TA} (h : PA X e t) (k : ∀ σ H Q, t' σ H Q → t σ H Q) : PA X e t' := ⟨fun pos pins s σ H Q I q => h.run pos pins s σ H Q I (k σ H Q q)⟩
theorem PO.imp {X : Cx} {e : Option Expr} {t t' : TO} (h : PO X e t) (k : ∀ σ H Q, t' σ H Q → t σ H Q) : PO X e t' := ⟨fun pins s σ H Q I q => h.run pins s σ H Q I (k σ H Q q)⟩

/-- what stands behind the first part of a reading -/
abbrev After {α β γ δ : Type} (K : PySem.W.Frag) (mg : Str → Option Value) (rel : List Addr → Hp → α → β → Prop) (rel' : List Addr → Hp → γ → δ → Prop) (E : XK) (A : List Addr) (H : Hp) (f : α → Sto → R γ) (Q : δ → Hp → Prop) : β → Hp → Prop :=
  fun b H' => ∃ A' S' a, Ext K A H A' H' ∧ Sim K mg A' S' H' ∧ rel A' H' a b ∧ PostG K mg rel' E A' H' (f a S') Q

section
variable {K : PySem.W.Frag} {mg : Str → Option Value} {A : List Addr} {H : Hp} {S : Sto}
theorem new_lst {p : Addr} {ds : List D} {vs : List V} (s : Sim K mg A S H) (h : H p = none) (r : Reps K A H ds vs) :
    Ext K A H (A ++ [p]) (upd H p (.lst vs)) ∧ Sim K mg (A ++ [p]) (S ++ [.lst ds]) (upd H p (.lst vs)) ∧ Rep K (A ++ [p]) (upd H p (.lst vs)) (.ref S.length) (.ref p) := by
  refine ⟨Ext.join h, (s.new h).join (s.fresh h) ⟨vs, upd_same, r.mono (Ext.new h)⟩, ?_⟩
  simp only [Rep]
  refine ⟨p, rfl, ?_⟩
  rw [← s.len, List.getElem?_append_right (Nat.le_refl _), Nat.sub_self]; rfl
theorem new_tup {p : Addr} {ds : List D} {vs : List V} (s : Sim K mg A S H) (h : H p = none) (r : Reps K A H ds vs) :
    Ext K A H A (upd H p (.tup vs)) ∧ Sim K mg A S (upd H p (.tup vs)) ∧ Rep K A (upd H p (.tup vs)) (.tup ds) (.ref p) := by
  refine ⟨Ext.new h, s.new h, ?_⟩
  simp only [Rep]
  exact ⟨p, vs, rfl, SqT.of upd_same, r.mono (Ext.new h)⟩
/-- a list of the store, where it stands -/
theorem Sim.lst (s : Sim K mg A S H) {n : Nat} {v : V} {ds : List D} (r : Rep K A H (.ref n) v) (e : S[n]? = some (.lst ds)) : ∃ a vs, v = .ref a ∧ A[n]? = some a ∧ H a = some (.lst vs) ∧ Reps K A H ds vs := by
  simp only [Rep] at r
  obtain ⟨a, e1, e2⟩ := r
  obtain ⟨vs, h, q⟩ := s.ob n a _ e2 e
  exact ⟨a, vs, e1, e2, h, q⟩
theorem Sim.items (s : Sim K mg A S H) {d : D} {v : V} {ds : List D} (r : Rep K A H d v) (e : items? S d = some ds) : ∃ a vs, v = .ref a ∧ (SqL K H a vs ∨ SqT K H a vs) ∧ Reps K A H ds vs := by
  cases d with
  | tup es =>
    simp only [items?] at e
    cases e
    simp only [Rep] at r
    obtain ⟨a, vs, e1, e2, e3⟩ := r
    exact ⟨a, vs, e1, .inr e2, e3⟩
  | fl es =>
    simp only [items?] at e
    cases e
    simp only [Rep] at r
    obtain ⟨a, vs, e1, e2, e3⟩ := r
    exact ⟨a, vs, e1, .inl e2.sq, e3⟩
  | ref n =>
    simp only [items?] at e
    split at e
    · rename_i es he
      cases e
      obtain ⟨a, vs, e1, _, h, q⟩ := s.lst r he
      exact ⟨a, vs, e1, .inl (SqL.of h), q⟩
    · cases e
  | _ => simp [items?] at e
theorem Sim.lst? (s : Sim K mg A S H) {d : D} {v : V} {n : Nat} {ds : List D} (r : Rep K A H d v) (e : lst? S d = some (n, ds)) : ∃ a vs, v = .ref a ∧ A[n]? = some a ∧ S[n]? = some (.lst ds) ∧ H a = some (.lst vs) ∧ Reps K A H ds vs := by
  cases d with
  | ref m =>
    simp only [Sw.lst?] at e
    split at e
    · rename_i es he
      cases e
      obtain ⟨a, vs, e1, e2, h, q⟩ := s.lst r he
      exact ⟨a, vs, e1, e2, he, h, q⟩
    · cases e
  | _ => simp [Sw.lst?] at e
theorem ints_rep : ∀ {ds : List D} {ns : List Int} {vs : List V}, ints? ds = some ns → Reps K A H ds vs → vs = ns.map V.int
  | [], ns, vs, h, r => by
    simp only [ints?] at h; cases h
    simp only [Reps] at r; subst r; rfl
  | .int i :: ds, ns, vs, h, r => by
    simp only [ints?] at h
    cases q : ints? ds with
    | none => rw [q] at h; cases h
    | some ms =>
      rw [q] at h; cases h
      simp only [Reps, Rep] at r
      obtain ⟨v, r', e, e1, r2⟩ := r
      subst e; subst e1
      rw [ints_rep q r2]; rfl
  | .non :: _, _, _, h, _ => by simp [ints?] at h
  | .bl _ :: _, _, _, h, _ => by simp [ints?] at h
  | .str _ :: _, _, _, h, _ => by simp [ints?] at h
  | .tup _ :: _, _, _, h, _ => by simp [ints?] at h
  | .fl _ :: _, _, _, h, _ => by simp [ints?] at h
  | .ref _ :: _, _, _, h, _ => by simp [ints?] at h
theorem bls_rep : ∀ {ds : List D} {ns : List Bool} {vs : List V}, bls? ds = some ns → Reps K A H ds vs → vs = ns.map V.bl
  | [], ns, vs, h, r => by
    simp only [bls?] at h; cases h
    simp only [Reps] at r; subst r; rfl
  | .bl i :: ds, ns, vs, h, r => by
    simp only [bls?] at h
    cases q : bls? ds with
    | none => rw [q] at h; cases h
    | some ms =>
      rw [q] at h; cases h
      simp only [Reps, Rep] at r
      obtain ⟨v, r', e, e1, r2⟩ := r
      subst e; subst e1
      rw [bls_rep q r2]; rfl
  | .non :: _, _, _, h, _ => by simp [bls?] at h
  | .int _ :: _, _, _, h, _ => by simp [bls?] at h
  | .str _ :: _, _, _, h, _ => by simp [bls?] at h
  | .tup _ :: _, _, _, h, _ => by simp [bls?] at h
  | .fl _ :: _, _, _, h, _ => by simp [bls?] at h
  | .ref _ :: _, _, _, h, _ => by simp [bls?] at h
theorem strs_rep : ∀ {ds : List D} {ns : List Str} {vs : List V}, strs? ds = some ns → Reps K A H ds vs → vs = ns.map V.str
  | [], ns, vs, h, r => by
    simp only [strs?] at h; cases h
    simp only [Reps] at r; subst r; rfl
  | .str i :: ds, ns, vs, h, r => by
    simp only [strs?] at h
    cases q : strs? ds with
    | none => rw [q] at h; cases h
    | some ms =>
      rw [q] at h; cases h
      simp only [Reps, Rep] at r
      obtain ⟨v, r', e, e1, r2⟩ := r
      subst e; subst e1
      rw [strs_rep q r2]; rfl
  | .non :: _, _, _, h, _ => by simp [strs?] at h
  | .int _ :: _, _, _, h, _ => by simp [strs?] at h
  | .bl _ :: _, _, _, h, _ => by simp [strs?] at h
  | .tup _ :: _, _, _, h, _ => by simp [strs?] at h
  | .fl _ :: _, _, _, h, _ => by simp [strs?] at h
  | .ref _ :: _, _, _, h, _ => by simp [strs?] at h
end

/-! ### the operators -/
def rB (X : Cx) (f : D → D → Sto → R D) : R2 := fun x y H Q => ∃ (E : XK) (A : List Addr) (S : Sto) (d e : D), Sim X.K X.mg A S H ∧ Rep X.K A H d x ∧ Rep X.K A H e y ∧ PostG X.K X.mg (relD X.K) E A H (f d e S) Q
section
variable {X : Cx}
theorem opr_add : OpR X (binaryOp .Add) (rB X opAdd) := by
  intro pins s σ H x y v u Q I rx ry h
  obtain ⟨E, A, S, d, e, hs, hd, he, hp⟩ := h
  simp only [opAdd] at hp
  split at hp
  · simp only [Rep] at hd he
    subst hd he
    exact op_add pins s σ H _ _ v u Q I rx ry ⟨_, _, rfl, rfl, hp A H _ Ext.refl hs (by simp only [relD, Rep])⟩
  · split at hp
    · rename_i hl
      simp only [Rep] at hd he
      subst hd he
      exact op_add_str pins s σ H _ _ v u Q I rx ry ⟨_, _, rfl, rfl, hl, hp A H _ Ext.refl hs (by simp only [relD, Rep])⟩
    · exact hp.elim
  · split at hp
    · rename_i a b hl
      simp only [Rep] at hd he
      obtain ⟨p, vs, rfl, h1, r1⟩ := hd
      obtain ⟨q, ws, rfl, h2, r2⟩ := he
      have l1 := r1.length
      have l2 := r2.length
      refine op_catT pins s σ H _ _ v u Q I rx ry ⟨p, q, vs, ws, rfl, rfl, h1, h2, fun z => ?_, by rw [l1, l2]; exact hl.2, fun z => ?_, fun _ t nt => ?_⟩
      · rw [z] at l1
        have h0 := hl.1
        cases a with
        | nil => simp at h0
        | cons _ _ => simp at l1
      · subst z
        have e : b = [] := by cases b with
          | nil => rfl
          | cons _ _ => simp at l2
        subst e
        refine hp A H _ Ext.refl hs ?_
        simp only [relD, Rep, List.append_nil]
        exact ⟨p, vs, rfl, h1, r1⟩
      · obtain ⟨n1, n2, n3⟩ := new_tup hs nt (r1.append r2)
        exact hp _ _ _ n1 n2 n3
    · exact hp.elim
  · split at hp
    · rename_i a b ha hb
      split at hp
      · rename_i hl
        obtain ⟨p, vs, rfl, _, h1, r1⟩ := hs.lst hd ha
        obtain ⟨q, ws, rfl, _, h2, r2⟩ := hs.lst he hb
        refine op_cat pins s σ H _ _ v u Q I rx ry ⟨p, q, vs, ws, rfl, rfl, h1, h2, by rw [r1.length, r2.length]; exact hl, fun t nt => ?_⟩
        obtain ⟨n1, n2, n3⟩ := new_lst hs nt (r1.append r2)
        exact hp _ _ _ n1 n2 n3
      · exact hp.elim
    · exact hp.elim
  · exact hp.elim

theorem opr_sub : OpR X (binaryOp .Sub) (rB X opSub) := by
  intro pins s σ H x y v u Q I rx ry h
  obtain ⟨E, A, S, d, e, hs, hd, he, hp⟩ := h
  simp only [opSub] at hp
  split at hp
  · simp only [Rep] at hd he
    subst hd he
    exact op_sub pins s σ H _ _ v u Q I rx ry ⟨_, _, rfl, rfl, hp A H _ Ext.refl hs (by simp only [relD, Rep])⟩
  · exact hp.elim
theorem opr_mul : OpR X (binaryOp .Mult) (rB X opMul) := by
  intro pins s σ H x y v u Q I rx ry h
  obtain ⟨E, A, S, d, e, hs, hd, he, hp⟩ := h
  simp only [opMul] at hp
  split at hp
  · split at hp
    · rename_i hb
      simp only [bigI, Bool.or_eq_true, Bool.and_eq_true, decide_eq_true_eq] at hb
      simp only [Rep] at hd he
      subst hd he
      exact op_mul pins s σ H _ _ v u Q I rx ry ⟨_, _, rfl, rfl, hb, hp A H _ Ext.refl hs (by simp only [relD, Rep])⟩
    · exact hp.elim
  · exact hp.elim
theorem opr_fdv : OpR X (binaryOp .FloorDiv) (rB X opFdv) := by
  intro pins s σ H x y v u Q I rx ry h
  obtain ⟨E, A, S, d, e, hs, hd, he, hp⟩ := h
  simp only [opFdv] at hp
  split at hp
  · split at hp
    · rename_i hb
      simp only [Rep] at hd he
      subst hd he
      exact op_fdivN pins s σ H _ _ v u Q I rx ry ⟨_, _, rfl, rfl, hb, hp A H _ Ext.refl hs (by simp only [relD, Rep])⟩
    · exact hp.elim
  · exact hp.elim
theorem opr_mod : OpR X (binaryOp .Mod) (rB X opMod) := by
  intro pins s σ H x y v u Q I rx ry h
  obtain ⟨E, A, S, d, e, hs, hd, he, hp⟩ := h
  simp only [opMod] at hp
  split at hp
  · split at hp
    · rename_i hb
      simp only [Rep] at hd he
      subst hd he
      exact op_modN pins s σ H _ _ v u Q I rx ry ⟨_, _, rfl, rfl, hb, hp A H _ Ext.refl hs (by simp only [relD, Rep])⟩
    · exact hp.elim
  · exact hp.elim
theorem opr_pow : OpR X (binaryOp .Pow) (rB X opPow) := by
  intro pins s σ H x y v u Q I rx ry h
  obtain ⟨E, A, S, d, e, hs, hd, he, hp⟩ := h
  simp only [opPow] at hp
  split at hp
  · split at hp
    · rename_i hb
      simp only [Rep] at hd he
      subst hd he
      exact op_pow pins s σ H _ _ v u Q I rx ry ⟨_, _, rfl, rfl, hb, hp A H _ Ext.refl hs (by simp only [relD, Rep])⟩
    · exact hp.elim
  · exact hp.elim
/-- the operator's name in the text -/
def bopIs : Bop → Operator → Bool
  | .add, .Add => true | .sub, .Sub => true | .mul, .Mult => true | .fdiv, .FloorDiv => true | .mod, .Mod => true | .pow, .Pow => true
  | _, _ => false
theorem opr_b {o : Bop} {p : Operator} (h : bopIs o p = true) : OpR X (binaryOp p) (rB X (opB o)) := by
  cases o <;> cases p <;> first | exact absurd h Bool.false_ne_true | exact opr_add | exact opr_sub | exact opr_mul | exact opr_fdv | exact opr_mod | exact opr_pow

/-! ### == -/
theorem allS_dp {K : PySem.W.Frag} {A : List Addr} {H : Hp} {f : D → Option PyData} (hf : ∀ d v p, Rep K A H d v → f d = some p → Dp K H v p) :
    ∀ {ds : List D} {vs : List V} {ps : List PyData}, Reps K A H ds vs → allS f ds = some ps → DpAll K H vs ps
  | [], vs, ps, r, e => by
    simp only [allS] at e; cases e
    simp only [Reps] at r; subst r
    exact .nil
  | d :: ds, vs, ps, r, e => by
    simp only [allS] at e
    cases h1 : f d with
    | none => rw [h1] at e; cases e
    | some p =>
      rw [h1] at e
      simp only at e
      cases h2 : allS f ds with
      | none => rw [h2] at e; cases e
      | some qs =>
        rw [h2] at e
        cases e
        simp only [Reps] at r
        obtain ⟨v, r', e', r1, r2⟩ := r
        subst e'
        exact .cons (hf d v p r1 h1) (allS_dp hf r2 h2)
theorem pyd_dp {K : PySem.W.Frag} {mg : Str → Option Value} {A : List Addr} {H : Hp} {S : Sto} (hs : Sim K mg A S H) : ∀ (n : Nat) (d : D) (v : V) (p : PyData), Rep K A H d v → pyd S n d = some p → Dp K H v p
  | 0, _, _, _, _, e => by simp [pyd] at e
  | n + 1, .non, _, _, r, e => by
    simp only [pyd] at e; cases e
    simp only [Rep] at r; subst r; exact .non
  | n + 1, .bl _, _, _, r, e => by
    simp only [pyd] at e; cases e
    simp only [Rep] at r; subst r; exact .bl _
  | n + 1, .int _, _, _, r, e => by
    simp only [pyd] at e; cases e
    simp only [Rep] at r; subst r; exact .int _
  | n + 1, .str _, _, _, r, e => by
    simp only [pyd] at e; cases e
    simp only [Rep] at r; subst r; exact .str _
  | n + 1, .tup ds, _, _, r, e => by
    simp only [pyd] at e
    cases h : allS (pyd S n) ds with
    | none => rw [h] at e; cases e
    | some ps =>
      rw [h] at e; cases e
      simp only [Rep] at r
      obtain ⟨a, vs, e1, e2, e3⟩ := r
      subst e1
      exact .tup e2 (allS_dp (pyd_dp hs n) e3 h)
  | n + 1, .fl ds, _, _, r, e => by
    simp only [pyd] at e
    cases h : allS (pyd S n) ds with
    | none => rw [h] at e; cases e
    | some ps =>
      rw [h] at e; cases e
      simp only [Rep] at r
      obtain ⟨a, vs, e1, e2, e3⟩ := r
      subst e1
      exact .lst e2.sq (allS_dp (pyd_dp hs n) e3 h)
  | n + 1, .ref m, _, _, r, e => by
    simp only [pyd] at e
    split at e
    · rename_i ds hd
      cases h : allS (pyd S n) ds with
      | none => rw [h] at e; cases e
      | some ps =>
        rw [h] at e; cases e
        obtain ⟨a, vs, e1, _, e2, e3⟩ := hs.lst r hd
        subst e1
        exact .lst (SqL.of e2) (allS_dp (pyd_dp hs n) e3 h)
    · cases e
theorem eqs_scal {K : PySem.W.Frag} {A : List Addr} {H : Hp} {d e : D} {x y : V} {b : Bool} (hd : Rep K A H d x) (he : Rep K A H e y) (h : eqs d e = some b) : scal x y = true ∧ decide (x = y) = b := by
  cases d <;> cases e <;> simp only [eqs] at h <;> first
    | (cases h; done)
    | (cases h; simp only [Rep] at hd he; subst hd he; exact ⟨rfl, by simp⟩)
/-- == or !=: g the answer's turn -/
theorem opr_eq (hu : X.A.units + 64 < cLine) : OpR X (compareOp .Eq) (rB X fun x y S => blR (eqD S x y) S) := by
  intro pins s σ H x y v u Q I rx ry h
  obtain ⟨E, A, S, d, e, hs, hd, he, hp⟩ := h
  simp only [eqD] at hp
  split at hp
  · rename_i b hb
    obtain ⟨h1, h2⟩ := eqs_scal hd he hb
    exact op_eq pins s σ H _ _ v u Q I rx ry ⟨h1, by rw [h2]; exact hp A H _ Ext.refl hs (by simp only [relD, Rep])⟩
  · split at hp
    · rename_i p q h1 h2
      split at hp
      · rename_i hsh
        rw [Bool.and_eq_true] at hsh
        exact op_eqD hu pins s σ H _ _ v u Q I rx ry ⟨p, q, pyd_dp hs _ _ _ _ hd h1, pyd_dp hs _ _ _ _ he h2, hsh.1, hsh.2, hp A H _ Ext.refl hs (by simp only [relD, Rep])⟩
      · exact hp.elim
    · exact hp.elim
theorem opr_ne (hu : X.A.units + 64 < cLine) : OpR X (compareOp .NotEq) (rB X fun x y S => blR ((eqD S x y).map (!·)) S) := by
  intro pins s σ H x y v u Q I rx ry h
  obtain ⟨E, A, S, d, e, hs, hd, he, hp⟩ := h
  simp only [eqD] at hp
  split at hp
  · rename_i b hb
    obtain ⟨h1, h2⟩ := eqs_scal hd he hb
    exact op_ne pins s σ H _ _ v u Q I rx ry ⟨h1, by rw [h2]; exact hp A H _ Ext.refl hs (by simp only [relD, Rep])⟩
  · split at hp
    · rename_i p q h1 h2
      split at hp
      · rename_i hsh
        rw [Bool.and_eq_true] at hsh
        exact op_neD hu pins s σ H _ _ v u Q I rx ry ⟨p, q, pyd_dp hs _ _ _ _ hd h1, pyd_dp hs _ _ _ _ he h2, hsh.1, hsh.2, hp A H _ Ext.refl hs (by simp only [relD, Rep])⟩
      · exact hp.elim
    · exact hp.elim
theorem opr_ci {c : CmpOp} {p : Int → Int → Bool} (ho : OpR X (compareOp c) (rI0 fun i j => .bl (p i j))) : OpR X (compareOp c) (rB X (opCI p)) := by
  intro pins s σ H x y v u Q I rx ry h
  obtain ⟨E, A, S, d, e, hs, hd, he, hp⟩ := h
  simp only [opCI] at hp
  split at hp
  · simp only [Rep] at hd he
    subst hd he
    exact ho pins s σ H _ _ v u Q I rx ry ⟨_, _, rfl, rfl, hp A H _ Ext.refl hs (by simp only [relD, Rep])⟩
  · exact hp.elim
theorem isNon_rep {K : PySem.W.Frag} {A : List Addr} {H : Hp} {d : D} {v : V} (h : Rep K A H d v) : isNon d = decide (v = .non) := by
  cases d <;> simp only [Rep] at h <;> first
    | (subst h; simp [isNon]; done)
    | (obtain ⟨_, _, rfl, _⟩ := h; simp [isNon]; done)
    | (obtain ⟨_, rfl, _⟩ := h; simp [isNon]; done)
theorem opr_is : OpR X (compareOp .Is) (rB X (opC .is)) := by
  intro pins s σ H x y v u Q I rx ry h
  obtain ⟨E, A, S, d, e, hs, hd, he, hp⟩ := h
  simp only [opC] at hp
  split at hp
  · rename_i hn
    rw [isNon_rep he, decide_eq_true_eq] at hn
    subst hn
    refine op_isN pins s σ H _ _ v u Q I rx ry ⟨rfl, ?_⟩
    rw [← isNon_rep hd]
    exact hp A H _ Ext.refl hs (by simp only [relD, Rep])
  · exact hp.elim
theorem opr_isnot : OpR X (compareOp .IsNot) (rB X (opC .isnot)) := by
  intro pins s σ H x y v u Q I rx ry h
  obtain ⟨E, A, S, d, e, hs, hd, he, hp⟩ := h
  simp only [opC] at hp
  split at hp
  · rename_i hn
    rw [isNon_rep he, decide_eq_true_eq] at hn
    subst hn
    refine op_notN pins s σ H _ _ v u Q I rx ry ⟨rfl, ?_⟩
    rw [← isNon_rep hd]
    exact hp A H _ Ext.refl hs (by simp only [relD, Rep])
  · exact hp.elim

theorem flat_rep {K : PySem.W.Frag} {A : List Addr} {H : Hp} {d : D} {v : V} (h : Rep K A H d v) (f : flat d = true) : flatV v = true := by
  cases d <;> simp only [Rep] at h <;> first
    | (subst h; rfl)
    | (exact absurd f Bool.false_ne_true)
theorem flats_rep {K : PySem.W.Frag} {A : List Addr} {H : Hp} : ∀ {ds : List D} {vs : List V}, Reps K A H ds vs → ds.all flat = true → vs.all flatV = true
  | [], _, r, _ => by simp only [Reps] at r; subst r; rfl
  | d :: ds, _, r, f => by
    simp only [Reps] at r
    obtain ⟨v, q, e, r1, r2⟩ := r
    subst e
    rw [List.all_cons, Bool.and_eq_true] at f ⊢
    exact ⟨flat_rep r1 f.1, flats_rep r2 f.2⟩
theorem eqF_rep {K : PySem.W.Frag} {A : List Addr} {H : Hp} {d e : D} {v w : V} (h : Rep K A H d v) (h' : Rep K A H e w) (f : flat d = true) (f' : flat e = true) : eqF d e = eqV v w := by
  cases d <;> first | (exact absurd f Bool.false_ne_true) | (cases e <;> first | (exact absurd f' Bool.false_ne_true) | (simp only [Rep] at h h'; subst h h'; rfl))
theorem anyF_rep {K : PySem.W.Frag} {A : List Addr} {H : Hp} {x : D} {w : V} (hx : Rep K A H x w) (fx : flat x = true) : ∀ {ds : List D} {vs : List V}, Reps K A H ds vs → ds.all flat = true → (ds.any fun d => eqF d x) = inV w vs
  | [], _, r, _ => by simp only [Reps] at r; subst r; rfl
  | d :: ds, _, r, f => by
    simp only [Reps] at r
    obtain ⟨v, q, e, r1, r2⟩ := r
    subst e
    rw [List.all_cons, Bool.and_eq_true] at f
    rw [List.any_cons, anyF_rep hx fx r2 f.2, eqF_rep r1 hx f.1 fx]
    rfl
theorem sign_rep {K : PySem.W.Frag} {A : List Addr} {H : Hp} {d : D} {v : V} {c : Nat} (h : Rep K A H d v) (e : sign? d = some c) : v = .str ⟨#[c]⟩ := by
  cases d with
  | str z =>
    simp only [Rep] at h
    simp only [sign?] at e
    split at e
    · rename_i k hk
      cases e
      subst h
      congr 1
      cases z with
      | mk cps => cases cps with
        | mk l => simp only at hk; rw [hk]
    · cases e
  | _ => simp [sign?] at e
theorem in_cases {K : PySem.W.Frag} {mg : Str → Option Value} {A : List Addr} {H : Hp} {S : Sto} {d e : D} {x y : V} {b : Bool} (hs : Sim K mg A S H) (hd : Rep K A H d x) (he : Rep K A H e y) (h : opIn d e S = some b) :
    (∃ c z, x = .str ⟨#[c]⟩ ∧ y = .str z ∧ b = decide (c ∈ z.cps.toList)) ∨ (∃ p xs, y = .ref p ∧ (SqL K H p xs ∨ SqT K H p xs) ∧ flatV x = true ∧ xs.all flatV = true ∧ b = inV x xs) := by
  simp only [opIn] at h
  split at h
  · split at h
    · rename_i z _ c hc
      cases h
      simp only [Rep] at he
      exact .inl ⟨c, z, sign_rep hd hc, he, rfl⟩
    · cases h
  · split at h
    · rename_i ds hi
      split at h
      · rename_i hf
        rw [Bool.and_eq_true] at hf
        cases h
        obtain ⟨a, vs, e1, e2, r⟩ := hs.items he hi
        exact .inr ⟨a, vs, e1, e2, flat_rep hd hf.1, flats_rep r hf.2, anyF_rep hd hf.1 r hf.2⟩
      · cases h
    · cases h
theorem opr_in : OpR X (compareOp .In) (rB X (opC .isin)) := by
  intro pins s σ H x y v u Q I rx ry h
  obtain ⟨E, A, S, d, e, hs, hd, he, hp⟩ := h
  simp only [opC] at hp
  cases q : opIn d e S with
  | none => rw [q] at hp; exact hp.elim
  | some b =>
    rw [q] at hp
    rcases in_cases hs hd he q with ⟨c, z, e1, e2, e3⟩ | ⟨p, xs, e1, e2, e3, e4, e5⟩
    · exact op_in_sign pins s σ H _ _ v u Q I rx ry ⟨c, z, e1, e2, by rw [← e3]; exact hp A H _ Ext.refl hs (by simp only [relD, Rep])⟩
    · exact op_in_seq pins s σ H _ _ v u Q I rx ry ⟨p, xs, e1, e2, e3, e4, by rw [if_neg Bool.false_ne_true, ← e5]; exact hp A H _ Ext.refl hs (by simp only [relD, Rep])⟩
theorem opr_notin : OpR X (compareOp .NotIn) (rB X (opC .notin)) := by
  intro pins s σ H x y v u Q I rx ry h
  obtain ⟨E, A, S, d, e, hs, hd, he, hp⟩ := h
  simp only [opC] at hp
  cases q : opIn d e S with
  | none => rw [q] at hp; exact hp.elim
  | some b =>
    rw [q] at hp
    rcases in_cases hs hd he q with ⟨c, z, e1, e2, e3⟩ | ⟨p, xs, e1, e2, e3, e4, e5⟩
    · exact op_notIn_sign pins s σ H _ _ v u Q I rx ry ⟨c, z, e1, e2, by rw [← e3]; exact hp A H _ Ext.refl hs (by simp only [relD, Rep])⟩
    · exact op_notIn_seq pins s σ H _ _ v u Q I rx ry ⟨p, xs, e1, e2, e3, e4, by rw [if_pos rfl, ← e5]; exact hp A H _ Ext.refl hs (by simp only [relD, Rep])⟩
def copIs : Cop → CmpOp → Bool
  | .eq, .Eq => true | .ne, .NotEq => true | .lt, .Lt => true | .le, .LtE => true | .gt, .Gt => true | .ge, .GtE => true
  | .is, .Is => true | .isnot, .IsNot => true | .isin, .In => true | .notin, .NotIn => true
  | _, _ => false
theorem opr_c (hu : X.A.units + 64 < cLine) {o : Cop} {p : CmpOp} (h : copIs o p = true) : OpR X (compareOp p) (rB X (opC o)) := by
  cases o <;> cases p <;> first
    | exact absurd h Bool.false_ne_true
    | exact opr_eq hu
    | exact opr_ne hu
    | exact opr_ci (p := fun i j => decide (i < j)) op_lt
    | exact opr_ci (p := fun i j => decide (i ≤ j)) op_le
    | exact opr_ci (p := fun i j => decide (j < i)) op_gt
    | exact opr_ci (p := fun i j => decide (j ≤ i)) op_ge
    | exact opr_is
    | exact opr_isnot
    | exact opr_in
    | exact opr_notin

/-! ### a[i], a[lo:hi] -/
theorem atI_rep {K : PySem.W.Frag} {A : List Addr} {H : Hp} {ds : List D} {vs : List V} {k : Int} {d : D} (r : Reps K A H ds vs) (e : atI ds k = some d) : ∃ v, atI vs k = some v ∧ Rep K A H d v := by
  unfold atI at e ⊢
  rw [r.length]
  cases q : ixN ds.length k with
  | none => rw [q] at e; cases e
  | some j =>
    rw [q] at e
    obtain ⟨v, h1, h2⟩ := r.get (show ds[j]? = some d from e)
    exact ⟨v, h1, h2⟩
theorem ixr : IxR X (rB X opI) := by
  intro value slice pins s σ H x y v u Q I rx ry h hsub
  obtain ⟨E, A, S, d, e, hs, hd, he, hp⟩ := h
  simp only [opI] at hp
  split at hp
  · rename_i k
    simp only [Rep] at he
    subst he
    split at hp
    · split at hp
      · rename_i z hz
        split at hp
        · rename_i c hc
          simp only [Rep] at hd
          subst hd
          exact ix_str value slice pins s σ H _ _ v u Q I rx ry ⟨z, k, c, rfl, rfl, hz, hc, hp A H _ Ext.refl hs (by simp only [relD, Rep])⟩ hsub
        · exact hp.elim
      · exact hp.elim
    · split at hp
      · rename_i ds hi
        split at hp
        · rename_i d' hd'
          obtain ⟨a, vs, e1, e2, r⟩ := hs.items hd hi
          obtain ⟨v', h1, h2⟩ := atI_rep r hd'
          rcases e2 with e2 | e2
          · exact ix_list value slice pins s σ H _ _ v u Q I rx ry ⟨a, vs, k, v', e1, rfl, e2, h1, hp A H _ Ext.refl hs h2⟩ hsub
          · exact ix_tup value slice pins s σ H _ _ v u Q I rx ry ⟨a, vs, k, v', e1, rfl, e2, h1, hp A H _ Ext.refl hs h2⟩ hsub
        · exact hp.elim
      · exact hp.elim
  · exact hp.elim
theorem cut_rep {K : PySem.W.Frag} {A : List Addr} {H : Hp} {ds : List D} {vs : List V} (r : Reps K A H ds vs) (lo hi : Option Int) : Reps K A H (cutD ds lo hi) (cutV vs lo hi) := by
  unfold cutD cutV
  rw [r.length]
  exact (r.drop _).take _
def rSl (X : Cx) : V → Option Int → Option Int → Hp → VK → Prop := fun x lo hi H Q => ∃ (E : XK) (A : List Addr) (S : Sto) (d : D), Sim X.K X.mg A S H ∧ Rep X.K A H d x ∧ PostG X.K X.mg (relD X.K) E A H (opS d lo hi S) Q
theorem slr : SlR X (rSl X) := by
  intro pins s σ H x v vl vu lo hi sl Q I rx hsl pl pu h
  obtain ⟨E, A, S, d, hs, hd, hp⟩ := h
  have lst : ∀ ds, (∃ a vs, x = .ref a ∧ SqL X.K H a vs ∧ Reps X.K A H ds vs) → PostG X.K X.mg (relD X.K) E A H (R.ok (.ref S.length) (S ++ [.lst (cutD ds lo hi)])) Q → ∃ T id, typeLookup (.type T) "__getitem__" = pure (some (.builtin id)) ∧ s.TypeIs v T ∧ wpAny (model X.prog X.w) X.A (getItem v (.ref sl)) (EP X pins σ Q) X.xe s := by
    intro ds ⟨a, vs, e1, e2, r⟩ hp
    refine sl_list pins s σ H _ v vl vu lo hi sl Q I rx hsl pl pu ⟨a, vs, e1, e2, fun p np => ?_⟩
    obtain ⟨n1, n2, n3⟩ := new_lst hs np (cut_rep r lo hi)
    exact hp _ _ _ n1 n2 n3
  cases d with
  | str z =>
    simp only [opS] at hp
    split at hp
    · rename_i hz
      simp only [Rep] at hd
      subst hd
      exact sl_str pins s σ H _ v vl vu lo hi sl Q I rx hsl pl pu ⟨z, rfl, hz, hp A H _ Ext.refl hs (by simp only [relD, Rep])⟩
    · exact hp.elim
  | tup ds =>
    simp only [opS] at hp
    split at hp
    · exact hp.elim
    · rename_i hw
      simp only [Rep] at hd
      obtain ⟨a, vs, rfl, h1, r⟩ := hd
      refine sl_tup pins s σ H _ v vl vu lo hi sl Q I rx hsl pl pu ⟨a, vs, rfl, h1, by rw [r.length]; exact hw, fun p np => ?_⟩
      obtain ⟨n1, n2, n3⟩ := new_tup hs np (cut_rep r lo hi)
      exact hp _ _ _ n1 n2 n3
  | fl es =>
    simp only [opS, items?] at hp
    simp only [Rep] at hd
    obtain ⟨a, vs, e1, h1, r⟩ := hd
    exact lst es ⟨a, vs, e1, h1.sq, r⟩ hp
  | ref n =>
    simp only [opS] at hp
    split at hp
    · rename_i ds hi'
      simp only [items?] at hi'
      split at hi'
      · rename_i es he
        cases hi'
        obtain ⟨a, vs, e1, _, h1, r⟩ := hs.lst hd he
        exact lst ds ⟨a, vs, e1, SqL.of h1, r⟩ hp
      · cases hi'
    · exact hp.elim
  | _ => simp only [opS, items?] at hp; exact hp.elim
end
end Sw

set_option Elab.async false
set_option linter.all false
set_option maxRecDepth 100000
set_option maxHeartbeats 400000
/-! Sw, part D: built-in functions, methods. -/
namespace Sw
open PySem PySem.Spec PyProof.Rows L2

def rF (X : Cx) (f : List D → Sto → R D) : List V → Hp → VK → Prop := fun vs H Q => ∃ (E : XK) (A : List Addr) (S : Sto) (ds : List D), Sim X.K X.mg A S H ∧ Reps X.K A H ds vs ∧ PostG X.K X.mg (relD X.K) E A H (f ds S) Q
def r1 (X : Cx) (f : D → Sto → R D) : List V → Hp → VK → Prop := fun vs H Q => ∃ (E : XK) (A : List Addr) (S : Sto) (d : D) (v : V), vs = [v] ∧ Sim X.K X.mg A S H ∧ Rep X.K A H d v ∧ PostG X.K X.mg (relD X.K) E A H (f d S) Q
def r2 (X : Cx) (f : D → D → Sto → R D) : List V → Hp → VK → Prop := fun vs H Q => ∃ (E : XK) (A : List Addr) (S : Sto) (d e : D) (v w : V), vs = [v, w] ∧ Sim X.K X.mg A S H ∧ Rep X.K A H d v ∧ Rep X.K A H e w ∧ PostG X.K X.mg (relD X.K) E A H (f d e S) Q
theorem reps1 {K : PySem.W.Frag} {A : List Addr} {H : Hp} {d : D} {vs : List V} (r : Reps K A H [d] vs) : ∃ v, vs = [v] ∧ Rep K A H d v := by
  simp only [Reps] at r
  obtain ⟨v, q, e, h, e2⟩ := r
  subst e2
  exact ⟨v, e, h⟩
theorem reps2 {K : PySem.W.Frag} {A : List Addr} {H : Hp} {d e : D} {vs : List V} (r : Reps K A H [d, e] vs) : ∃ v w, vs = [v, w] ∧ Rep K A H d v ∧ Rep K A H e w := by
  simp only [Reps] at r
  obtain ⟨v, q, e, h, w, q2, e2, h2, e3⟩ := r
  subst e3
  subst e2
  exact ⟨v, w, e, h, h2⟩
section
variable {X : Cx}
theorem cl_len : CallR X (.builtin "len") (r1 X fLen) := by
  intro pins s σ H xs us Q I r h
  obtain ⟨E, A, S, d, v, rfl, hs, hd, hp⟩ := h
  simp only [fLen] at hp
  split at hp
  · split at hp
    · rename_i hz
      simp only [Rep] at hd
      subst hd
      exact call_len_str pins s σ H _ us Q I r ⟨_, rfl, hz, hp A H _ Ext.refl hs (by simp only [relD, Rep])⟩
    · exact hp.elim
  · split at hp
    · rename_i ds hi
      obtain ⟨a, vs, e1, e2, q⟩ := hs.items hd hi
      subst e1
      exact call_len_seq pins s σ H _ us Q I r ⟨a, vs, rfl, e2, hp A H _ Ext.refl hs (by simp only [relD, Rep, q.length])⟩
    · exact hp.elim
theorem cl_lst : CallR X (.type "list") (r1 X fLst) := by
  intro pins s σ H xs us Q I r h
  obtain ⟨E, A, S, d, v, rfl, hs, hd, hp⟩ := h
  simp only [fLst] at hp
  split at hp
  · rename_i ds hi
    obtain ⟨a, vs, e1, e2, q⟩ := hs.items hd hi
    subst e1
    refine call_list_of pins s σ H _ us Q I r ⟨a, vs, rfl, e2, fun p np => ?_⟩
    obtain ⟨n1, n2, n3⟩ := new_lst hs np q
    exact hp _ _ _ n1 n2 n3
  · exact hp.elim
theorem cl_tup : CallR X (.type "tuple") (r1 X fTup) := by
  intro pins s σ H xs us Q I r h
  obtain ⟨E, A, S, d, v, rfl, hs, hd, hp⟩ := h
  simp only [fTup] at hp
  split at hp
  · rename_i ds hi
    obtain ⟨a, vs, e1, e2, q⟩ := hs.items hd hi
    subst e1
    refine call_tuple_of pins s σ H _ us Q I r ⟨a, vs, rfl, ?_⟩
    rcases e2 with e2 | e2
    · refine .inl ⟨e2, fun p np => ?_⟩
      obtain ⟨n1, n2, n3⟩ := new_tup hs np q
      exact hp _ _ _ n1 n2 n3
    · refine .inr ⟨e2, hp A H _ Ext.refl hs ?_⟩
      simp only [relD, Rep]
      exact ⟨a, vs, rfl, e2, q⟩
  · exact hp.elim
theorem cl_sum (hc : X.calm = true) : CallR X (.builtin "sum") (r1 X fSum) := by
  intro pins s σ H xs us Q I r h
  obtain ⟨E, A, S, d, v, rfl, hs, hd, hp⟩ := h
  simp only [fSum] at hp
  split at hp
  · rename_i n ds hi
    split at hp
    · rename_i ns hn
      obtain ⟨a, vs, e1, _, _, e2, q⟩ := hs.lst? hd hi
      subst e1
      have e3 := ints_rep hn q
      subst e3
      exact cr_sum hc pins s σ H _ us Q I r ⟨a, ns, rfl, SqL.of e2, hp A H _ Ext.refl hs (by simp only [relD, Rep])⟩
    · exact hp.elim
  · exact hp.elim
theorem cl_all (hc : X.calm = true) : CallR X (.builtin "all") (r1 X (fAA fun bs => bs.all id)) := by
  intro pins s σ H xs us Q I r h
  obtain ⟨E, A, S, d, v, rfl, hs, hd, hp⟩ := h
  simp only [fAA] at hp
  split at hp
  · rename_i n ds hi
    split at hp
    · rename_i ns hn
      obtain ⟨a, vs, e1, _, _, e2, q⟩ := hs.lst? hd hi
      subst e1
      have e3 := bls_rep hn q
      subst e3
      exact cr_all hc pins s σ H _ us Q I r ⟨a, ns, rfl, SqL.of e2, hp A H _ Ext.refl hs (by simp only [relD, Rep])⟩
    · exact hp.elim
  · exact hp.elim
theorem cl_any (hc : X.calm = true) : CallR X (.builtin "any") (r1 X (fAA fun bs => bs.any id)) := by
  intro pins s σ H xs us Q I r h
  obtain ⟨E, A, S, d, v, rfl, hs, hd, hp⟩ := h
  simp only [fAA] at hp
  split at hp
  · rename_i n ds hi
    split at hp
    · rename_i ns hn
      obtain ⟨a, vs, e1, _, _, e2, q⟩ := hs.lst? hd hi
      subst e1
      have e3 := bls_rep hn q
      subst e3
      exact cr_any hc pins s σ H _ us Q I r ⟨a, ns, rfl, SqL.of e2, hp A H _ Ext.refl hs (by simp only [relD, Rep])⟩
    · exact hp.elim
  · exact hp.elim
theorem cl_min (hc : X.calm = true) : CallR X (.builtin "min") (r2 X (f2I fun i j => if j < i then j else i)) := by
  intro pins s σ H xs us Q I r h
  obtain ⟨E, A, S, d, e, v, w, rfl, hs, hd, he, hp⟩ := h
  simp only [f2I] at hp
  split at hp
  · simp only [Rep] at hd he
    subst hd he
    exact call_min2 hc pins s σ H _ us Q I r ⟨_, _, rfl, hp A H _ Ext.refl hs (by simp only [relD, Rep])⟩
  · exact hp.elim
theorem cl_max (hc : X.calm = true) : CallR X (.builtin "max") (r2 X (f2I fun i j => if j > i then j else i)) := by
  intro pins s σ H xs us Q I r h
  obtain ⟨E, A, S, d, e, v, w, rfl, hs, hd, he, hp⟩ := h
  simp only [f2I] at hp
  split at hp
  · simp only [Rep] at hd he
    subst hd he
    exact call_max2 hc pins s σ H _ us Q I r ⟨_, _, rfl, hp A H _ Ext.refl hs (by simp only [relD, Rep])⟩
  · exact hp.elim
theorem cl_int : CallR X (.type "int") (r1 X fInt) := by
  intro pins s σ H xs us Q I r h
  obtain ⟨E, A, S, d, v, rfl, hs, hd, hp⟩ := h
  simp only [fInt] at hp
  split at hp
  · simp only [Rep] at hd
    subst hd
    exact call_int1 pins s σ H _ us Q I r (.inl ⟨_, rfl, hp A H _ Ext.refl hs (by simp only [relD, Rep])⟩)
  · simp only [Rep] at hd
    subst hd
    exact call_int1 pins s σ H _ us Q I r (.inr ⟨_, rfl, hp A H _ Ext.refl hs (by simp only [relD, Rep])⟩)
  · split at hp
    · rename_i n hn
      split at hp
      · rename_i hl
        simp only [Rep] at hd
        subst hd
        exact call_int_str pins s σ H _ us Q I r ⟨_, _, rfl, hn, hl, hp A H _ Ext.refl hs (by simp only [relD, Rep])⟩
      · exact hp.elim
    · exact hp.elim
  · exact hp.elim
theorem cl_str : CallR X (.type "str") (r1 X fStr) := by
  intro pins s σ H xs us Q I r h
  obtain ⟨E, A, S, d, v, rfl, hs, hd, hp⟩ := h
  simp only [fStr] at hp
  split at hp
  · split at hp
    · rename_i hl
      simp only [Rep] at hd
      subst hd
      exact call_str_int pins s σ H _ us Q I r ⟨_, rfl, hl, hp A H _ Ext.refl hs (by simp only [relD, Rep])⟩
    · exact hp.elim
  · exact hp.elim

/-! ### isinstance -/
theorem tyD_x {K : PySem.W.Frag} {mg : Str → Option Value} {A : List Addr} {H : Hp} {S : Sto} (hs : Sim K mg A S H) {d : D} {v : V} {t : String} (h : Rep K A H d v) (e : tyD S d = some t) : TyX K H v (.type t) := by
  cases d with
  | non => simp only [tyD] at e; cases e; simp only [Rep] at h; subst h; exact .base .non
  | bl b => simp only [tyD] at e; cases e; simp only [Rep] at h; subst h; exact .base (.bl b)
  | int b => simp only [tyD] at e; cases e; simp only [Rep] at h; subst h; exact .base (.int b)
  | str b => simp only [tyD] at e; cases e; simp only [Rep] at h; subst h; exact .base (.str b)
  | tup ds =>
    simp only [tyD] at e; cases e
    simp only [Rep] at h
    obtain ⟨a, vs, e1, h1, _⟩ := h
    subst e1
    rcases h1 with (h1 | ⟨o, h1⟩) | ⟨o, _, _, h1, h2, _⟩
    · exact .base (.tup h1)
    · exact .fTuple h1
    · exact .kTuple h1 h2
  | fl ds => simp [tyD] at e
  | ref n =>
    simp only [tyD] at e
    split at e
    · rename_i es he
      cases e
      obtain ⟨a, vs, e1, _, h1, _⟩ := hs.lst h he
      subst e1
      exact .base (.lst h1)
    · cases e
/-- isinstance(a, T) -/
def rI1 (X : Cx) (ty : String) : List V → Hp → VK → Prop := fun vs H Q => ∃ (E : XK) (A : List Addr) (S : Sto) (d : D) (v : V), vs = [v, .ty ty] ∧ Sim X.K X.mg A S H ∧ Rep X.K A H d v ∧ PostG X.K X.mg (relD X.K) E A H (opT d ty S) Q
theorem cl_isi {ty : String} : CallR X (.builtin "isinstance") (rI1 X ty) := by
  intro pins s σ H xs us Q I r h
  obtain ⟨E, A, S, d, v, rfl, hs, hd, hp⟩ := h
  simp only [opT] at hp
  split at hp
  · rename_i t ht
    split at hp
    · rename_i b hb
      exact call_isi pins s σ H _ us Q I r ⟨v, .ty ty, _, _, b, rfl, .ty ty, tyD_x hs hd ht, kit_ty hb, hp A H _ Ext.refl hs (by simp only [relD, Rep])⟩
    · exact hp.elim
  · exact hp.elim

/-! ### methods -/
def rM0 (X : Cx) (f : D → Sto → R D) : V → List V → Hp → VK → Prop := fun x vs H Q => ∃ (E : XK) (A : List Addr) (S : Sto) (o : D), vs = [] ∧ Sim X.K X.mg A S H ∧ Rep X.K A H o x ∧ PostG X.K X.mg (relD X.K) E A H (f o S) Q
def rM1 (X : Cx) (f : D → D → Sto → R D) : V → List V → Hp → VK → Prop := fun x vs H Q => ∃ (E : XK) (A : List Addr) (S : Sto) (o d : D) (v : V), vs = [v] ∧ Sim X.K X.mg A S H ∧ Rep X.K A H o x ∧ Rep X.K A H d v ∧ PostG X.K X.mg (relD X.K) E A H (f o d S) Q
theorem ml_app : MtR X "list.append" (rM1 X mApp) := by
  intro pins s σ H x xs v us Q I rx rs h
  obtain ⟨E, A, S, o, d, w, rfl, hs, ho, hd, hp⟩ := h
  simp only [mApp] at hp
  split at hp
  · rename_i n ds hi
    split at hp
    · rename_i hl
      obtain ⟨a, vs, e1, e2, e3, e4, q⟩ := hs.lst? ho hi
      refine mt_append pins s σ H _ _ v us Q I rx rs ⟨a, vs, w, e1, rfl, e4, by rw [q.length]; exact hl, ?_⟩
      obtain ⟨n1, n2⟩ := hs.write (o := .lst (vs ++ [w])) (o' := .lst (ds ++ [d])) e2 (fun x => ⟨_, upd_same, (q.mono x).append (Reps.cons (hd.mono x) Reps.nil)⟩)
      exact hp A _ _ n2 n1 (by simp only [relD, Rep])
    · exact hp.elim
  · exact hp.elim
theorem reps_dropLast {K : PySem.W.Frag} {A : List Addr} {H : Hp} {ds : List D} {vs : List V} (r : Reps K A H ds vs) : Reps K A H ds.dropLast vs.dropLast := by
  rw [List.dropLast_eq_take, List.dropLast_eq_take, r.length]
  exact r.take _
theorem ml_pop : MtR X "list.pop" (rM0 X mPop) := by
  intro pins s σ H x xs v us Q I rx rs h
  obtain ⟨E, A, S, o, rfl, hs, ho, hp⟩ := h
  simp only [mPop] at hp
  split at hp
  · rename_i n ds hi
    split at hp
    · rename_i d hd
      obtain ⟨a, vs, e1, e2, e3, e4, q⟩ := hs.lst? ho hi
      obtain ⟨w, h1, h2⟩ := q.get hd
      refine mt_pop pins s σ H _ _ v us Q I rx rs ⟨a, vs, w, e1, rfl, e4, by rw [q.length]; exact h1, ?_⟩
      obtain ⟨n1, n2⟩ := hs.write (o := .lst vs.dropLast) (o' := .lst ds.dropLast) e2 (fun x => ⟨_, upd_same, reps_dropLast (q.mono x)⟩)
      exact hp A _ _ n2 n1 (h2.mono n2)
    · exact hp.elim
  · exact hp.elim
theorem ml_popA : MtR X "list.pop" (rM1 X mPopA) := by
  intro pins s σ H x xs v us Q I rx rs h
  obtain ⟨E, A, S, o, d, w, rfl, hs, ho, hd, hp⟩ := h
  simp only [mPopA] at hp
  split at hp
  · rename_i i
    split at hp
    · rename_i n ds hi
      split at hp
      · rename_i hb
        split at hp
        · rename_i k hk
          split at hp
          · rename_i d' hd'
            obtain ⟨a, vs, e1, e2, e3, e4, q⟩ := hs.lst? ho hi
            obtain ⟨w', h1, h2⟩ := q.get hd'
            simp only [Rep] at hd
            subst hd
            refine mt_popAt pins s σ H _ _ v us Q I rx rs ⟨a, vs, i, k, w', e1, rfl, e4, hb.1, hb.2, by rw [q.length]; exact hk, h1, ?_⟩
            obtain ⟨n1, n2⟩ := hs.write (o := .lst (vs.eraseIdx k)) (o' := .lst (ds.eraseIdx k)) e2 (fun x => ⟨_, upd_same, (q.mono x).erase k⟩)
            exact hp A _ _ n2 n1 (h2.mono n2)
          · exact hp.elim
        · exact hp.elim
      · exact hp.elim
    · exact hp.elim
  · exact hp.elim
theorem ml_join : MtR X "str.join" (rM1 X mJoin) := by
  intro pins s σ H x xs v us Q I rx rs h
  obtain ⟨E, A, S, o, d, w, rfl, hs, ho, hd, hp⟩ := h
  simp only [mJoin] at hp
  split at hp
  · rename_i a
    split at hp
    · rename_i ds hi
      split at hp
      · rename_i ys hy
        split at hp
        · rename_i hl
          obtain ⟨p, vs, e1, e2, q⟩ := hs.items hd hi
          have e3 := strs_rep hy q
          subst e3
          simp only [Rep] at ho
          subst ho
          subst e1
          exact mt_join pins s σ H _ _ v us Q I rx rs ⟨a, p, ys, rfl, rfl, e2, hl, hp A H _ Ext.refl hs (by simp only [relD, Rep])⟩
        · exact hp.elim
      · exact hp.elim
    · exact hp.elim
  · exact hp.elim
theorem reps_str {K : PySem.W.Frag} {A : List Addr} {H : Hp} : ∀ ys : List Str, Reps K A H (ys.map D.str) (ys.map V.str)
  | [] => Reps.nil
  | y :: ys => Reps.cons (by simp only [Rep]) (reps_str ys)
theorem ml_split : MtR X "str.split" (rM1 X mSplit) := by
  intro pins s σ H x xs v us Q I rx rs h
  obtain ⟨E, A, S, o, d, w, rfl, hs, ho, hd, hp⟩ := h
  simp only [mSplit] at hp
  split at hp
  · rename_i a b
    split at hp
    · rename_i hb
      simp only [Rep] at ho hd
      subst ho hd
      refine mt_split pins s σ H _ _ v us Q I rx rs ⟨a, b, rfl, rfl, hb.1, hb.2, fun p np => ?_⟩
      obtain ⟨n1, n2, n3⟩ := new_lst hs np (reps_str (Txt.split a b))
      exact hp _ _ _ n1 n2 n3
    · exact hp.elim
  · exact hp.elim
end
end Sw

set_option Elab.async false
set_option linter.all false
set_option maxRecDepth 100000
set_option maxHeartbeats 400000
/-! Sw, part E: what fits a text; an expression's end is what the text's run comes to. -/
namespace Sw
open PySem PySem.Spec PyProof.Rows L2

/-! ### what fits -/
def seen (sc : Scope) (x : Str) : Bool := match sc.names.lookup x with
  | some .local => true | some .cell => true | some .free => true | _ => false
def own (sc : Scope) (x : Str) : Bool := match sc.names.lookup x with
  | some .local => true | some .cell => true | _ => false
def glob (sc : Scope) (x : Str) : Bool := match sc.names.lookup x with
  | some .globalImplicit => true | _ => false
def cstIs : D → Const → Bool
  | .non, .none => true
  | .bl b, .bool c => b == c
  | .int i, .int j => decide (i = j)
  | .str x, .str y => decide (x = y)
  | _, _ => false
def bfN : Bf → String
  | .len => "len" | .list => "list" | .tuple => "tuple" | .sum => "sum" | .min => "min" | .max => "max" | .int => "int" | .str => "str" | .repr => "repr" | .all => "all" | .any => "any"
def mtN : Mt → String
  | .append => "append" | .pop0 => "pop" | .popA => "pop" | .insert => "insert" | .index => "index" | .count => "count" | .join => "join" | .split => "split" | .clear => "clear"
def bfOk : Bf → Bool
  | .repr => false
  | _ => true
def mtOk : Mt → Bool
  | .append => true | .pop0 => true | .popA => true | .join => true | .split => true
  | _ => false
def plainIx : Expr → Bool
  | .Slice .. => false
  | _ => true
def plainOb : Expr → Bool
  | .Call (.Name _ _) [] [] _ => false
  | _ => true
def isTup : Expr → Bool
  | .Tuple .. => true
  | _ => false
/-- a target: a name, or names -/
def ckTs (N : List Str) (ok : Str → Bool) : List (Str × Nat) → List Expr → Bool
  | [], [] => true
  | (x, i) :: r, .Name y _ :: q => decide (x = y) && decide (N[i]? = some x) && ok x && ckTs N ok r q
  | _, _ => false
def ckTg (N : List Str) (ok : Str → Bool) : List (Str × Nat) → Expr → Bool
  | [(x, i)], .Name y _ => decide (x = y) && decide (N[i]? = some x) && ok x
  | tg, .Tuple es _ _ => decide (2 ≤ tg.length) && ckTs N ok tg es
  | _, _ => false
/-- the names that a text leans on: its own defs with how many parameters, the built-ins that are not hidden -/
structure Nm where
  fs : Str → Option (List Str)
  bl : List Str
def dbg (x : Str) : Bool := !(x == ("__debug__" : Str)) && !(x == ("__classdict__" : Str)) && !(decide (x = ("__name__" : Str)))
mutual
def ckE (T : Nm) (N : List Str) (sc : Scope) : E → Expr → Bool
  | .var i x, .Name y _ => decide (x = y) && decide (N[i]? = some x) && seen sc x && dbg x
  | .cst d, .Constant c _ _ => cstIs d c
  | .glb x, .Name y _ => decide (x = y) && glob sc x && dbg x
  | .bin o a b, .BinOp pa p pb _ => bopIs o p && ckE T N sc a pa && ckE T N sc b pb
  | .neg a, .UnaryOp .USub pa _ => ckE T N sc a pa
  | .cmp o a b, .Compare pa [p] [pb] _ => copIs o p && ckE T N sc a pa && ckE T N sc b pb && !behindInMarks p pb
  | .chn o o' a b c, .Compare pa [p, p'] [pb, pc] _ => copIs o p && copIs o' p' && ckE T N sc a pa && ckE T N sc b pb && ckE T N sc c pc && !lastMarks [p, p'] [pb, pc]
  | .band a b, .BoolOp .And (p :: q :: r) pos => ckE T N sc a p && ckE T N sc b (.BoolOp .And (q :: r) pos)
  | .bor a b, .BoolOp .Or (p :: q :: r) pos => ckE T N sc a p && ckE T N sc b (.BoolOp .Or (q :: r) pos)
  | .one a, .BoolOp _ [p] _ => ckE T N sc a p
  | .bnot a, .UnaryOp .Not pa _ => ckE T N sc a pa
  | .ite c a b, .IfExp pc pa pb _ => ckE T N sc c pc && ckE T N sc a pa && ckE T N sc b pb && tst c
  | .tup es, .Tuple ps _ _ => ckL T N sc es ps
  | .lst es, .List ps _ => ckL T N sc es ps
  | .ix a i, .Subscript pa pi _ => ckE T N sc a pa && ckE T N sc i pi && plainIx pi
  | .slc a lo hi, .Subscript pa (.Slice plo phi none _) _ => ckE T N sc a pa && ckO T N sc lo plo && ckO T N sc hi phi
  | .call f es, .Call (.Name y _) ps [] _ => decide (f = y) && glob sc f && dbg f && (T.fs f).isSome && ckL T N sc es ps && !ps.isEmpty
  | .blt f es, .Call (.Name y _) ps [] _ => decide ((bfN f : Str) = y) && glob sc y && decide (y ∈ T.bl) && ckL T N sc es ps && !ps.isEmpty && bfOk f
  | .isi a ty, .Call (.Name y _) [pa, .Name t _] [] _ => decide (("isinstance" : Str) = y) && decide ((ty : Str) = t) && glob sc y && glob sc t && decide (y ∈ T.bl) && decide (t ∈ T.bl) && decide (ty ∈ ["int", "bool", "str", "tuple", "list"]) && ckE T N sc a pa
  | .mth m o es, .Call (.Attribute po nm ap) ps [] pos => decide ((mtN m : Str) = nm) && (ap.endLine == pos.line) && plainOb po && ckE T N sc o po && ckL T N sc es ps && mtOk m && decide (ps.length < 20)
  | .comp tg it cond elt, .ListComp pe [⟨pt, pit, ifs, 0⟩] scope _ => L2.blkC N sc scope tg && ckTg N (fun x => own scope x) tg pt && ckI T N sc it pt pit && ckC T N (relS scope sc) cond ifs && ckE T N (relS scope sc) elt pe
  | .fst es, .JoinedStr ps _ => decide (2 ≤ ps.length) && ckF T N sc es ps
  | _, _ => false
def ckL (T : Nm) (N : List Str) (sc : Scope) : EL → List Expr → Bool
  | .nil, [] => true
  | .cons e r, p :: ps => ckE T N sc e p && ckL T N sc r ps
  | _, _ => false
def ckO (T : Nm) (N : List Str) (sc : Scope) : EO → Option Expr → Bool
  | .none, none => true
  | .some e, some p => ckE T N sc e p
  | _, _ => false
def ckC (T : Nm) (N : List Str) (sc : Scope) : EO → List Expr → Bool
  | .none, [] => true
  | .some e, [p] => ckE T N sc e p && tst e
  | _, _ => false
def ckF (T : Nm) (N : List Str) (sc : Scope) : EL → List Expr → Bool
  | .nil, [] => true
  | .cons e r, .FormattedValue p c none _ :: ps => decide (c = -1) && ckE T N sc e p && ckF T N sc r ps
  | .cons e r, .Constant c k p :: ps => (match e with | .cst (.str x) => (match c with | .str y => decide (x = y) | _ => false) | _ => false) && ckF T N sc r ps
  | _, _ => false
def ckI (T : Nm) (N : List Str) (sc : Scope) : I → Expr → Expr → Bool
  | .seq e, _, p => ckE T N sc e p
  | .rng es, _, .Call (.Name y _) ps [] _ => decide (("range" : Str) = y) && glob sc y && decide (y ∈ T.bl) && ckL T N sc es ps && (decide (ps.length = 1) || decide (ps.length = 2))
  | .enm es, pt, .Call (.Name y _) ps [] _ => isTup pt && decide (("enumerate" : Str) = y) && glob sc y && decide (y ∈ T.bl) && ckL T N sc es ps && decide (ps.length = 1)
  | .zip es, pt, .Call (.Name y _) ps [] _ => isTup pt && decide (("zip" : Str) = y) && glob sc y && decide (y ∈ T.bl) && ckL T N sc es ps && (decide (ps.length = 2) || decide (ps.length = 3))
  | _, _, _ => false
/-- what may stand as a test -/
def tst : E → Bool
  | .ite _ _ _ => false
  | .band a b => tst a && tst b
  | .bor a b => tst a && tst b
  | .bnot a => tst a
  | .one a => tst a
  | _ => true
end

/-! ### the contexts -/
def spF (K : PySem.W.Frag) (mg : Str → Option Value) (cf : CF) (f : Str) (ps : List Str) : Sp := fun vs H Q E =>
  ∃ A S ds, Sim K mg A S H ∧ Reps K A H ds vs ∧ ds.length = ps.length ∧ PostG K mg (relD K) E A H (cf f ds S) Q
def EL.len : EL → Nat
  | .nil => 0
  | .cons _ r => r.len + 1
structure GX (T : Nm) (n : Nat) (cf : CF) (gl : GL) (X : Cx) (W : WX) : Prop where
  tk : Takes X W
  room : Room n X.A
  calm : X.calm = true
  nd : X.N.Nodup
  pass : PassesOwn (model X.prog X.w) X.A X.env X.xe
  glob : ∀ x d, gl x = some d → ∃ u v, X.mg x = some u ∧ RelV v u ∧ (∀ A H, Rep X.K A H d v)
  blt : ∀ x, x ∈ T.bl → X.mg x = none
  arity : ∀ f ps, T.fs f = some ps → ∀ (ds : List D) (S : Sto), ds.length ≠ ps.length → cf f ds S = .no
  defs : ∀ f ps, T.fs f = some ps → ∃ a fd, X.mg f = some (.ref a) ∧ PySem.W.keepIn X.K (.ref a) = true ∧ Binds X.K fd ps [] ∧ FnOk X.prog X.w X.K X.mg X.base (L2.CX X.prog X.w) n a fd ps (spF X.K X.mg cf f ps)
abbrev W0 : WX := fun _ _ _ _ => False
theorem GX.blk {T : Nm} {n : Nat} {cf : CF} {gl : GL} {X : Cx} {W : WX} (G : GX T n cf gl X W) (s : Shared) (H : Hp) (scope : Scope) (cenv : Env) (fp : List Addr) : GX T n cf gl (X.blk s H scope cenv fp) W0 :=
  ⟨takes0, G.room, G.calm, G.nd, PassesOwn.never, G.glob, G.blt, G.arity, G.defs⟩

/-! ### a walked thing -/
def ItR (K : PySem.W.Frag) (mg : Str → Option Value) (A0 : List Addr) (H0 : Hp) (ds : List D) (c : Srcs) (J : It) : Prop :=
  ∀ (i : Nat) (A : List Addr) (S : Sto) (H : Hp), Ext K A0 H0 A H → Sim K mg A S H → stab S c = true →
    (∀ d, ds[i]? = some d → J.go i H ∧ ∀ x H', J.yld i H x H' → Ext K A H A H' ∧ Sim K mg A S H' ∧ Rep K A H' d x) ∧ (i = ds.length → J.stop i H)
abbrev relI (K : PySem.W.Frag) (mg : Str → Option Value) : List Addr → Hp → List D × Srcs → It → Prop := fun A H p J => ItR K mg A H p.1 p.2 J
def rI (X : Cx) (W : WX) (m : Sl → Sto → R (List D × Srcs)) : TI := fun σ H Q => ∃ A S env, EnvR X.K A H env σ ∧ Sim X.K X.mg A S H ∧ PostG X.K X.mg (relI X.K X.mg) (WE W σ) A H (m env S) Q
theorem PI.imp {X : Cx} {tg e : Expr} {t t' : TI} (h : PI X tg e t) (k : ∀ σ H Q, t' σ H Q → t σ H Q) : PI X tg e t' := ⟨fun pins s σ H Q I q => h.run pins s σ H Q I (k σ H Q q)⟩

theorem bnd {P : Prop} {a b : Bool} (h : (a && b) = true) (k : a = true → b = true → P) : P := by
  rw [Bool.and_eq_true] at h; exact k h.1 h.2
theorem vis_of {sc : Scope} {x : Str} (h : seen sc x = true) : Vis sc x := by
  unfold seen at h
  unfold Vis
  split at h <;> first | exact .inl (by assumption) | exact .inr (.inl (by assumption)) | exact .inr (.inr (by assumption)) | cases h
theorem gl_of {X : Cx} {x : Str} (h : glob X.env.scope x = true) : Gl X x := by
  unfold glob at h
  unfold Gl
  split at h
  · assumption
  · cases h
theorem dbg_of {x : Str} (h : dbg x = true) : (x == ("__debug__" : Str)) = false ∧ (x == ("__classdict__" : Str)) = false ∧ x ≠ "__name__" := by
  unfold dbg at h
  simp only [Bool.and_eq_true, Bool.not_eq_true', decide_eq_false_iff_not] at h
  exact ⟨h.1.1, h.1.2, h.2⟩

section
variable {X : Cx} {W : WX}
theorem so_var {i : Nat} {x : Str} {pos : Pos} {cf : CF} {gl : GL} (hN : X.N[i]? = some x) (hv : Vis X.env.scope x) (h1 : (x == ("__debug__" : Str)) = false) (h2 : (x == ("__classdict__" : Str)) = false) : PE X (.Name x pos) (rE X W (evE cf gl (.var i x))) := by
  refine PE.imp (pe_var (i := i) hN hv h1 h2) fun σ H Q h => ?_
  obtain ⟨A, S, env, he, hs, hp⟩ := h
  simp only [evE] at hp
  split at hp
  · rename_i d hd
    obtain ⟨v, e1, e2⟩ := he.2 i d hd
    exact ⟨v, e1, hp A H v Ext.refl hs e2⟩
  · exact hp.elim
theorem so_cst {d : D} {c : Const} {k : Nat} {pos : Pos} {cf : CF} {gl : GL} (h : cstIs d c = true) : PE X (.Constant c k pos) (rE X W (evE cf gl (.cst d))) := by
  have fin : ∀ {v : V}, (∀ A H, Rep X.K A H d v) → PE X (.Constant c k pos) (tC v) → PE X (.Constant c k pos) (rE X W (evE cf gl (.cst d))) := fun {v} hr hpe =>
    PE.imp hpe fun σ H Q h => by
      obtain ⟨A, S, env, he, hs, hp⟩ := h
      simp only [evE] at hp
      exact hp A H v Ext.refl hs (hr A H)
  cases d <;> cases c <;> first
    | exact absurd h Bool.false_ne_true
    | exact fin (fun A H => by simp only [Rep]) pe_non
    | (simp only [cstIs, beq_iff_eq, decide_eq_true_eq] at h; subst h; first | exact fin (fun A H => by simp only [Rep]) pe_bl | exact fin (fun A H => by simp only [Rep]) pe_int | exact fin (fun A H => by simp only [Rep]) pe_str)
theorem so_glb {x : Str} {pos : Pos} {T : Nm} {n : Nat} {cf : CF} {gl : GL} (G : GX T n cf gl X W) (hg : Gl X x) (hd : (x == ("__debug__" : Str)) = false) : PE X (.Name x pos) (rE X W (evE cf gl (.glb x))) := by
  cases q : gl x with
  | none =>
    refine ⟨fun pins s σ H Q I h => ?_⟩
    obtain ⟨A, S, env, he, hs, hp⟩ := h
    simp only [evE, q] at hp
    exact hp.elim
  | some d =>
    obtain ⟨u, v, h1, h2, h3⟩ := G.glob x d q
    refine PE.imp (pe_glob hg h1 h2 hd) fun σ H Q h => ?_
    obtain ⟨A, S, env, he, hs, hp⟩ := h
    simp only [evE, q] at hp
    exact hp A H v Ext.refl hs (h3 A H)
/-- two parts and an operation by values -/
theorem two {ta tb : TE} {ma mb : Sl → Sto → R D} {f : D → D → Sto → R D} {σ : L2.St} {H : Hp} {Q : VK} (ha : ta = rE X W ma) (hb : tb = rE X W mb)
    (h : rE X W (fun σ S => (ma σ S).bind fun x S1 => (mb σ S1).bind fun y S2 => f x y S2) σ H Q) : tOp (rB X f) ta tb σ H Q := by
  subst ha hb
  obtain ⟨A, S, env, he, hs, hp⟩ := h
  refine ⟨A, S, env, he, hs, hp.bind.imp fun v H1 q => ?_⟩
  obtain ⟨A1, S1, d, x1, s1, r1, p1⟩ := q
  refine ⟨A1, S1, env, he.mono x1, s1, p1.bind.imp fun w H2 q => ?_⟩
  obtain ⟨A2, S2, e, x2, s2, r2, p2⟩ := q
  exact ⟨_, A2, S2, d, e, s2, r1.mono x2, r2, p2⟩
/-- a value that is True or False, as a test -/
theorem test_of {te : TE} {m : Sl → Sto → R D} {σ : L2.St} {H : Hp} {Q : Bool → Hp → Prop} (h : rT X W m σ H Q) : tB (rE X W m) σ H Q := by
  obtain ⟨A, S, env, he, hs, hp⟩ := h
  refine ⟨A, S, env, he, hs, hp.bind.imp fun v H1 q => ?_⟩
  obtain ⟨A1, S1, d, x1, s1, r1, p1⟩ := q
  cases d with
  | bl b =>
    simp only [Rep] at r1
    subst r1
    exact ⟨b, rfl, p1 A1 H1 b Ext.refl s1 rfl⟩
  | _ => exact p1.elim
theorem pt_of {e : Expr} {m : Sl → Sto → R D} (h : PE X e (rE X W m)) (he : ∀ whole, isTrue e X.env whole = (do let v ← whole; standAt e.pos; holding [v] (truthy v))) : PT X e (rT X W m) :=
  PT.imp (pt_val h he) fun σ H Q q => test_of (te := rE X W m) q
end
end Sw

set_option Elab.async false
set_option linter.all false
set_option maxRecDepth 100000
set_option maxHeartbeats 1000000
/-! Sw, part Y: zip of three tuples. -/
namespace Sw
open PySem PySem.Spec PyProof.Rows L2

theorem nne {a b : Nat} (h : a ≠ b) : a ≠ b := h
theorem nmem {a b c : Nat} (h : a ≠ b) (h2 : a ≠ c) : a ∉ [b, c] := fun z => by
  rcases List.mem_cons.mp z with z | z
  · exact h z
  · exact h2 (List.mem_singleton.mp z)
theorem zsep3 (I a b c : Nat) (ha : a < I) (hb : b < I) (hc : c < I) : ZipSep3 (I + 5) (I + 3) (I + 4) I (I + 1) (I + 2) [I, a] [I + 1, b] [I + 2, c] := by
  constructor <;> first
    | exact List.mem_cons_self
    | (refine nmem (nne ?_) (nne ?_) <;> omega)
    | (refine nne ?_; omega)
def Itz3 (K : PySem.W.Frag) (a b c : Addr) : It :=
  ⟨fun i H => ∃ (xs ys zs : List V) (x y z : V), SqT K H a xs ∧ SqT K H b ys ∧ SqT K H c zs ∧ xs[i]? = some x ∧ ys[i]? = some y ∧ zs[i]? = some z,
    fun i H v H' => ∃ T x y z, v = .ref T ∧ H T = none ∧ H' = upd H T (.tup [x, y, z]) ∧ (∀ xs, SqT K H a xs → xs[i]? = some x) ∧ (∀ ys, SqT K H b ys → ys[i]? = some y) ∧ ∀ zs, SqT K H c zs → zs[i]? = some z,
    fun i H => ∃ xs ys zs : List V, SqT K H a xs ∧ SqT K H b ys ∧ SqT K H c zs ∧ i ≤ xs.length ∧ i ≤ ys.length ∧ i ≤ zs.length ∧ (i = xs.length ∨ i = ys.length ∨ i = zs.length)⟩
abbrev tn3 (z TI TO i1 i2 i3 a b c : Addr) : Nat → Heap → Prop := fun i h =>
  IsZip h z TI TO .none ∧ IsTupOf3 h TI (.ref i1) (.ref i2) (.ref i3) ∧ (∃ x y w, IsTupOf3 h TO x y w) ∧ h.IsTupleIter i1 a i ∧ h.IsTupleIter i2 b i ∧ h.IsTupleIter i3 c i
theorem turn_zip3 {P : Program} {w : World} {K : PySem.W.Frag} {elts : List Expr} {kk : Nat} {tpos : Pos} {a b c z TI TO i1 i2 i3 : Addr} (D : ZipSep3 z TI TO i1 i2 i3 [i1, a] [i2, b] [i3, c])
    (n1 : a ≠ i1) (n2 : b ≠ i2) (n3 : c ≠ i3) :
    Turn P w K (.Tuple elts kk tpos) (Itz3 K a b c) [z, TI, TO, i1, i2, i3] z (tn3 z TI TO i1 i2 i3 a b c) where
  mem := by simp
  obj := fun i h st d hc => by
    obtain ⟨hz, hTI, ⟨x, y, w, hTO⟩, ⟨o1, e1, _, d1⟩, ⟨o2, e2, _, d2⟩, ⟨o3, e3, _, d3⟩⟩ := st
    have e' : d = z ∨ d = TI ∨ d = TO ∨ d = i1 ∨ d = i2 ∨ d = i3 := by simpa using hc
    rcases e' with q | q | q | q | q | q
    · rw [q]; exact ⟨_, hz, fun v q => nomatch q⟩
    · rw [q]; exact ⟨_, hTI, fun v q => nomatch q⟩
    · rw [q]; exact ⟨_, hTO, fun v q => nomatch q⟩
    · rw [q]; exact ⟨o1, e1, fun v q => by rw [d1] at q; cases q⟩
    · rw [q]; exact ⟨o2, e2, fun v q => by rw [d2] at q; cases q⟩
    · rw [q]; exact ⟨o3, e3, fun v q => by rw [d3] at q; cases q⟩
  keep := fun i h h' st k => by
    obtain ⟨hz, hTI, ⟨x, y, w, hTO⟩, h1, h2, h3⟩ := st
    exact ⟨k z (by simp) _ hz, k TI (by simp) _ hTI, ⟨x, y, w, k TO (by simp) _ hTO⟩, h1.at fun o q => k i1 (by simp) o q, h2.at fun o q => k i2 (by simp) o q, h3.at fun o q => k i3 (by simp) o q⟩
  item := by
    intro X hP hw hK hc i pins s σ H E I hf st hg
    subst hP hw hK
    obtain ⟨hz, hTI, ⟨x0, y0, w0, hTO⟩, h1, h2, h3⟩ := st
    obtain ⟨xs, ys, zs, x, y, zz, hqx, hqy, hqz, hx, hy, hzz⟩ := hg
    obtain ⟨its, rv, p, _⟩ := I.tuple hqx
    obtain ⟨its2, rv2, p2, _⟩ := I.tuple hqy
    obtain ⟨its3, rv3, p3, _⟩ := I.tuple hqz
    obtain ⟨u, hu, ru⟩ := rv.get hx
    obtain ⟨u2, hu2, ru2⟩ := rv2.get hy
    obtain ⟨u3, hu3, ru3⟩ := rv3.get hzz
    have hzl : z < s.heap.objs.size := Heap.lt_size hz
    have hh : X.A.in1.handled = none := I.ok.hd hc
    have l1 : i < its.toArray.size := by simpa using (List.getElem?_eq_some_iff.mp hu).1
    have l2 : i < its2.toArray.size := by simpa using (List.getElem?_eq_some_iff.mp hu2).1
    have l3 : i < its3.toArray.size := by simpa using (List.getElem?_eq_some_iff.mp hu3).1
    refine wpAny_pyNext_zipD3_item D (Draws.tuple hh i1 a n1 its.toArray) (Draws.tuple hh i2 b n2 its2.toArray) (Draws.tuple hh i3 c n3 its3.toArray) hz hTI hTO ⟨h1, show s.heap.IsTuple a _ from p⟩ ⟨h2, show s.heap.IsTuple b _ from p2⟩ ⟨h3, show s.heap.IsTuple c _ from p3⟩ l1 l2 l3
      fun v1 v2 v3 h' tk e1 e2 e3 z' TO' st1 st2 st3 hT hsz hk => ?_
    have e1 : v1 = u := by
      rw [show its.toArray[i]? = some u by simpa using hu] at e1; exact (Option.some.inj e1).symm
    have e2 : v2 = u2 := by
      rw [show its2.toArray[i]? = some u2 by simpa using hu2] at e2; exact (Option.some.inj e2).symm
    have e3 : v3 = u3 := by
      rw [show its3.toArray[i]? = some u3 by simpa using hu3] at e3; exact (Option.some.inj e3).symm
    subst e1 e2 e3
    refine ⟨_, rfl, wpAny_letOwnedTupleGo_zip (s := { s with heap := h', toks := tk }) z' fun h'' z'' sb => ?_⟩
    have hT2 : h''.get? s.heap.objs.size = some { cls := .type "tuple", data := .seq #[v1, v2, v3] } := (sb.2 _ (Nat.ne_of_gt hzl)).trans hT
    have new : ObjOk X.prog X.w (upd H s.heap.objs.size (.tup [x, y, zz])) h'' s.heap.objs.size (.tup [x, y, zz]) :=
      ⟨by show 3 ≤ sizeLine; decide, [v1, v2, v3], .cons ru (.cons ru2 (.cons ru3 .nil)), ⟨_, hT2, rfl, _, rfl⟩⟩
    have I1 : Inv X pins σ (upd H s.heap.objs.size (.tup [x, y, zz])) { s with heap := h'', toks := tk } :=
      I.turnedNew (t' := tk) (ch := [z, TI, TO, i1, i2, i3]) (fun c o hb q => (sb.2 c (fun q' => hb (by simp [q']))).trans (hk c o (fun q' => hb (by simp [q'])) (fun q' => hb (by simp [q'])) (fun q' => hb (by simp [q'])) (fun q' => hb (by simp [q'])) (fun q' => hb (by simp [q'])) q)) hf (Nat.le_refl _) new
    refine ⟨.ref s.heap.objs.size, _, I1, rfl, ⟨_, x, y, zz, rfl, I.hok.fresh (Nat.le_refl _), rfl, fun l hl => by rw [I.tuple_inj hl hqx]; exact hx, fun l hl => by rw [I.tuple_inj hl hqy]; exact hy, fun l hl => by rw [I.tuple_inj hl hqz]; exact hzz⟩, ⟨z'', ?_, ⟨v1, v2, v3, ?_⟩, ?_, ?_, ?_⟩, fun c hcm => ?_⟩
    · exact (sb.2 _ D.TIz).trans (hk _ _ D.TIz D.TITO D.TIi1 D.TIi2 D.TIi3 hTI)
    · exact (sb.2 _ D.TOz).trans TO'
    · exact st1.1.at fun o q => (sb.2 _ D.zi1.symm).trans q
    · exact st2.1.at fun o q => (sb.2 _ D.zi2.symm).trans q
    · exact st3.1.at fun o q => (sb.2 _ D.zi3.symm).trans q
    · have hlt : c < s.heap.objs.size := by
        have e' : c = z ∨ c = TI ∨ c = TO ∨ c = i1 ∨ c = i2 ∨ c = i3 := by simpa using hcm
        rcases e' with q | q | q | q | q | q
        · rw [q]; exact hzl
        · rw [q]; exact Heap.lt_size hTI
        · rw [q]; exact Heap.lt_size hTO
        · rw [q]; obtain ⟨_, e1, _⟩ := h1; exact Heap.lt_size e1
        · rw [q]; obtain ⟨_, e1, _⟩ := h2; exact Heap.lt_size e1
        · rw [q]; obtain ⟨_, e1, _⟩ := h3; exact Heap.lt_size e1
      rw [upd_ne (Nat.ne_of_lt hlt)]
      exact (hf c hcm).1
  done := by
    intro X hP hw hK hc i pins s σ H E I hf st hg
    subst hP hw hK
    obtain ⟨hz, hTI, ⟨x0, y0, w0, hTO⟩, h1, h2, h3⟩ := st
    obtain ⟨xs, ys, zs, hqx, hqy, hqz, m1, m2, m3, hend⟩ := hg
    obtain ⟨its, rv, p, _⟩ := I.tuple hqx
    obtain ⟨its2, rv2, p2, _⟩ := I.tuple hqy
    obtain ⟨its3, rv3, p3, _⟩ := I.tuple hqz
    have l1 : its.toArray.size = xs.length := by rw [List.size_toArray]; exact rv.length.symm
    have l2 : its2.toArray.size = ys.length := by rw [List.size_toArray]; exact rv2.length.symm
    have l3 : its3.toArray.size = zs.length := by rw [List.size_toArray]; exact rv3.length.symm
    have hh : X.A.in1.handled = none := I.ok.hd hc
    exact wpAny_pyNext_zipD3_end D (Draws.tuple hh i1 a n1 its.toArray) (Draws.tuple hh i2 b n2 its2.toArray) (Draws.tuple hh i3 c n3 its3.toArray) hz hTI hTO ⟨h1, show s.heap.IsTuple a _ from p⟩ ⟨h2, show s.heap.IsTuple b _ from p2⟩ ⟨h3, show s.heap.IsTuple c _ from p3⟩
      (by omega) (by omega) (by omega) (by omega) fun h' tk hk => ⟨rfl, I.turnedL (t' := tk) (ch := [z, TI, TO, i1, i2, i3]) (fun c o hb q =>
        hk c o (fun q' => hb (by simp [q'])) (fun q' => hb (by simp [q'])) (fun q' => hb (by simp [q'])) (fun q' => hb (by simp [q'])) (fun q' => hb (by simp [q'])) q) hf⟩
  self := fun A i s Q E st h => wpAny_pyIter_zip st.1 h

def iZip3 (K : PySem.W.Frag) (ta : TA) : TI := fun σ H R => ta σ H fun vs H1 => ∃ a b c xs ys zs, vs = [.ref a, .ref b, .ref c] ∧ SqT K H1 a xs ∧ SqT K H1 b ys ∧ SqT K H1 c zs ∧ R (Itz3 K a b c) H1
theorem pi_zip3 {X : Cx} {e e2 e3 : Expr} {ta : TA} {p pos tpos : Pos} {elts : List Expr} {kk : Nat} (hg : Gl X "zip") (hm : X.mg "zip" = none) (ha : PA X [e, e2, e3] ta)
    (hs : starEach [e, e2, e3] X.env = (false, eval e X.env) :: starEach [e2, e3] X.env) (hpl : (backTo pos (starEach [e2, e3] X.env)).any (·.1) = false) :
    PI X (.Tuple elts kk tpos) (.Call (.Name "zip" p) [e, e2, e3] [] pos) (iZip3 X.K ta) := by
  refine ⟨fun pins s σ H R I h => ?_⟩
  refine Call_ (ld_blt I hg hm PyProof.Rows.boot_zip (PyProof.Rows.callWith_type1 (thn (ha.run pos pins s σ H _ I h) fun us s1 ⟨vs, H1, I1, r1, q1⟩ => ?_) hs hpl))
  obtain ⟨a, b, c, xs, ys, zs, ex, hqx, hqy, hqz, q⟩ := q1
  subst ex
  cases r1 with
  | cons r rr => cases rr with
    | cons r' rr => cases rr with
      | cons r'' rr =>
        cases rr
        cases r
        cases r'
        cases r''
        obtain ⟨its, rv, p1, _⟩ := I1.tuple hqx
        obtain ⟨its2, rv2, p2, _⟩ := I1.tuple hqy
        obtain ⟨its3, rv3, p3, _⟩ := I1.tuple hqz
        have la : a < s1.heap.objs.size := p1.lt
        have lb : b < s1.heap.objs.size := p2.lt
        have lc : c < s1.heap.objs.size := p3.lt
        refine zip_begins3 (begins_tuple a its.toArray) (begins_tuple b its2.toArray) (begins_tuple c its3.toArray) (show s1.heap.IsTuple a _ from p1) (show s1.heap.IsTuple b _ from p2) (show s1.heap.IsTuple c _ from p3) fun h' hz hTI hTO h1 h2 h3 hsz hk => wpAny_pyIter_zip hz ?_
        have I2 : Inv X pins σ H1 { s1 with heap := h' } := I1.kept (t' := s1.toks) hk
        have nn : ∀ (m : Nat) (k : Nat), m ≠ k → (s1.heap.objs.size + m : Nat) ≠ s1.heap.objs.size + k := fun m k hmk z => hmk (by omega)
        refine ⟨s1.heap.objs.size + 5, [s1.heap.objs.size + 5, s1.heap.objs.size + 3, s1.heap.objs.size + 4, s1.heap.objs.size, s1.heap.objs.size + 1, s1.heap.objs.size + 2], _, _, H1, rfl, I2,
          turn_zip3 (z := s1.heap.objs.size + 5) (TI := s1.heap.objs.size + 3) (TO := s1.heap.objs.size + 4) (i1 := s1.heap.objs.size) (i2 := s1.heap.objs.size + 1) (i3 := s1.heap.objs.size + 2) (a := a) (b := b) (c := c) ?_ ?_ ?_ ?_,
          ⟨hz, hTI, ⟨_, _, _, hTO⟩, ⟨_, h1, rfl, rfl⟩, ⟨_, h2, rfl, rfl⟩, ⟨_, h3, rfl, rfl⟩⟩, fun d hcm => ?_, q⟩
        · exact zsep3 _ a b c la lb lc
        · exact Nat.ne_of_lt la
        · exact Nat.ne_of_lt (Nat.lt_succ_of_lt lb)
        · exact Nat.ne_of_lt (Nat.lt_succ_of_lt (Nat.lt_succ_of_lt lc))
        · have hle : s1.heap.objs.size ≤ d := by
            have e' : d = s1.heap.objs.size + 5 ∨ d = s1.heap.objs.size + 3 ∨ d = s1.heap.objs.size + 4 ∨ d = s1.heap.objs.size ∨ d = s1.heap.objs.size + 1 ∨ d = s1.heap.objs.size + 2 := by simpa using hcm
            rcases e' with z | z | z | z | z | z <;> rw [z] <;> first | exact Nat.le_refl _ | exact Nat.le_add_right _ _
          exact I1.fpOk hle (I1.hok.fresh hle)
end Sw

set_option Elab.async false
set_option linter.all false
set_option maxRecDepth 100000
set_option maxHeartbeats 1000000
/-! Sw, part F: an expression that fits comes to the language's end. -/
namespace Sw
open PySem PySem.Spec PyProof.Rows L2

/-! ### what fits, taken apart -/
section
variable {T : Nm} {N : List Str} {sc : Scope} {pe : Expr}
theorem ck_var {i : Nat} {x : Str} (h : ckE T N sc (.var i x) pe = true) : ∃ pos, pe = .Name x pos ∧ N[i]? = some x ∧ seen sc x = true ∧ dbg x = true := by
  cases pe with
  | Name y pos =>
    simp only [ckE, Bool.and_eq_true, decide_eq_true_eq] at h
    exact ⟨pos, by rw [h.1.1.1], h.1.1.2, h.1.2, h.2⟩
  | _ => simp [ckE] at h
theorem ck_cst {d : D} (h : ckE T N sc (.cst d) pe = true) : ∃ c k pos, pe = .Constant c k pos ∧ cstIs d c = true := by
  cases pe with
  | Constant c k pos => simp only [ckE] at h; exact ⟨c, k, pos, rfl, h⟩
  | _ => simp [ckE] at h
theorem ck_glb {x : Str} (h : ckE T N sc (.glb x) pe = true) : ∃ pos, pe = .Name x pos ∧ glob sc x = true ∧ dbg x = true := by
  cases pe with
  | Name y pos =>
    simp only [ckE, Bool.and_eq_true, decide_eq_true_eq] at h
    exact ⟨pos, by rw [h.1.1], h.1.2, h.2⟩
  | _ => simp [ckE] at h
theorem ck_bin {o : Bop} {a b : E} (h : ckE T N sc (.bin o a b) pe = true) : ∃ pa p pb pos, pe = .BinOp pa p pb pos ∧ bopIs o p = true ∧ ckE T N sc a pa = true ∧ ckE T N sc b pb = true := by
  cases pe with
  | BinOp pa p pb pos => simp only [ckE, Bool.and_eq_true] at h; exact ⟨pa, p, pb, pos, rfl, h.1.1, h.1.2, h.2⟩
  | _ => simp [ckE] at h
theorem ck_neg {a : E} (h : ckE T N sc (.neg a) pe = true) : ∃ pa pos, pe = .UnaryOp .USub pa pos ∧ ckE T N sc a pa = true := by
  cases pe with
  | UnaryOp p pa pos => cases p <;> simp [ckE] at h; exact ⟨pa, pos, rfl, h⟩
  | _ => simp [ckE] at h
theorem ck_bnot {a : E} (h : ckE T N sc (.bnot a) pe = true) : ∃ pa pos, pe = .UnaryOp .Not pa pos ∧ ckE T N sc a pa = true := by
  cases pe with
  | UnaryOp p pa pos => cases p <;> simp [ckE] at h; exact ⟨pa, pos, rfl, h⟩
  | _ => simp [ckE] at h
theorem ck_cmp {o : Cop} {a b : E} (h : ckE T N sc (.cmp o a b) pe = true) : ∃ pa p pb pos, pe = .Compare pa [p] [pb] pos ∧ copIs o p = true ∧ ckE T N sc a pa = true ∧ ckE T N sc b pb = true ∧ behindInMarks p pb = false := by
  cases pe with
  | Compare pa ps pbs pos =>
    rcases ps with _ | ⟨p, _ | ⟨p', r⟩⟩ <;> rcases pbs with _ | ⟨pb, _ | ⟨pb', r'⟩⟩ <;> simp only [ckE, Bool.and_eq_true, Bool.not_eq_true', Bool.false_eq_true] at h
    exact ⟨pa, p, pb, pos, rfl, h.1.1.1, h.1.1.2, h.1.2, h.2⟩
  | _ => simp [ckE] at h
theorem ck_chn {o o' : Cop} {a b c : E} (h : ckE T N sc (.chn o o' a b c) pe = true) : ∃ pa p p' pb pc pos, pe = .Compare pa [p, p'] [pb, pc] pos ∧ copIs o p = true ∧ copIs o' p' = true ∧ ckE T N sc a pa = true ∧ ckE T N sc b pb = true ∧ ckE T N sc c pc = true ∧ lastMarks [p, p'] [pb, pc] = false := by
  cases pe with
  | Compare pa ps pbs pos =>
    rcases ps with _ | ⟨p, _ | ⟨p', _ | ⟨p'', r⟩⟩⟩ <;> rcases pbs with _ | ⟨pb, _ | ⟨pb', _ | ⟨pb'', r'⟩⟩⟩ <;> simp only [ckE, Bool.and_eq_true, Bool.not_eq_true', Bool.false_eq_true] at h
    exact ⟨pa, p, p', pb, pb', pos, rfl, h.1.1.1.1.1, h.1.1.1.1.2, h.1.1.1.2, h.1.1.2, h.1.2, h.2⟩
  | _ => simp [ckE] at h
theorem ck_band {a b : E} (h : ckE T N sc (.band a b) pe = true) : ∃ p q r pos, pe = .BoolOp .And (p :: q :: r) pos ∧ ckE T N sc a p = true ∧ ckE T N sc b (.BoolOp .And (q :: r) pos) = true := by
  cases pe with
  | BoolOp op ps pos =>
    cases op <;> rcases ps with _ | ⟨p, _ | ⟨q, r⟩⟩ <;> simp only [ckE, Bool.and_eq_true, Bool.false_eq_true] at h
    exact ⟨p, q, r, pos, rfl, h.1, h.2⟩
  | _ => simp [ckE] at h
theorem ck_bor {a b : E} (h : ckE T N sc (.bor a b) pe = true) : ∃ p q r pos, pe = .BoolOp .Or (p :: q :: r) pos ∧ ckE T N sc a p = true ∧ ckE T N sc b (.BoolOp .Or (q :: r) pos) = true := by
  cases pe with
  | BoolOp op ps pos =>
    cases op <;> rcases ps with _ | ⟨p, _ | ⟨q, r⟩⟩ <;> simp only [ckE, Bool.and_eq_true, Bool.false_eq_true] at h
    exact ⟨p, q, r, pos, rfl, h.1, h.2⟩
  | _ => simp [ckE] at h
theorem ck_one {a : E} (h : ckE T N sc (.one a) pe = true) : ∃ op p pos, pe = .BoolOp op [p] pos ∧ ckE T N sc a p = true := by
  cases pe with
  | BoolOp op ps pos =>
    rcases ps with _ | ⟨p, _ | ⟨q, r⟩⟩ <;> simp only [ckE, Bool.false_eq_true] at h
    exact ⟨op, p, pos, rfl, h⟩
  | _ => simp [ckE] at h
theorem ck_ite {c a b : E} (h : ckE T N sc (.ite c a b) pe = true) : ∃ pc pa pb pos, pe = .IfExp pc pa pb pos ∧ ckE T N sc c pc = true ∧ ckE T N sc a pa = true ∧ ckE T N sc b pb = true ∧ tst c = true := by
  cases pe with
  | IfExp pc pa pb pos => simp only [ckE, Bool.and_eq_true] at h; exact ⟨pc, pa, pb, pos, rfl, h.1.1.1, h.1.1.2, h.1.2, h.2⟩
  | _ => simp [ckE] at h
theorem ck_tup {es : EL} (h : ckE T N sc (.tup es) pe = true) : ∃ ps k pos, pe = .Tuple ps k pos ∧ ckL T N sc es ps = true := by
  cases pe with
  | Tuple ps k pos => simp only [ckE] at h; exact ⟨ps, k, pos, rfl, h⟩
  | _ => simp [ckE] at h
theorem ck_lst {es : EL} (h : ckE T N sc (.lst es) pe = true) : ∃ ps pos, pe = .List ps pos ∧ ckL T N sc es ps = true := by
  cases pe with
  | List ps pos => simp only [ckE] at h; exact ⟨ps, pos, rfl, h⟩
  | _ => simp [ckE] at h
theorem ck_slc {a : E} {lo hi : EO} (h : ckE T N sc (.slc a lo hi) pe = true) : ∃ pa plo phi q pos, pe = .Subscript pa (.Slice plo phi none q) pos ∧ ckE T N sc a pa = true ∧ ckO T N sc lo plo = true ∧ ckO T N sc hi phi = true := by
  cases pe with
  | Subscript pa pi pos =>
    cases pi with
    | Slice plo phi st q =>
      cases st with
      | none => simp only [ckE, Bool.and_eq_true] at h; exact ⟨pa, plo, phi, q, pos, rfl, h.1.1, h.1.2, h.2⟩
      | some s => simp [ckE] at h
    | _ => simp [ckE] at h
  | _ => simp [ckE] at h
theorem ck_ix {a i : E} (h : ckE T N sc (.ix a i) pe = true) : ∃ pa pi pos, pe = .Subscript pa pi pos ∧ ckE T N sc a pa = true ∧ ckE T N sc i pi = true ∧ plainIx pi = true := by
  cases pe with
  | Subscript pa pi pos => simp only [ckE, Bool.and_eq_true] at h; exact ⟨pa, pi, pos, rfl, h.1.1, h.1.2, h.2⟩
  | _ => simp [ckE] at h
theorem ck_call {f : Str} {es : EL} (h : ckE T N sc (.call f es) pe = true) : ∃ p p1 ps pos, pe = .Call (.Name f p) (p1 :: ps) [] pos ∧ glob sc f = true ∧ dbg f = true ∧ (T.fs f).isSome = true ∧ ckL T N sc es (p1 :: ps) = true := by
  cases pe with
  | Call g ps ks pos =>
    cases g with
    | Name y p =>
      rcases ks with _ | ⟨k, ks⟩
      · simp only [ckE, Bool.and_eq_true, decide_eq_true_eq, Bool.not_eq_true'] at h
        obtain ⟨⟨⟨⟨⟨h1, h2⟩, h3⟩, h4⟩, h5⟩, h6⟩ := h
        rcases ps with _ | ⟨p1, ps⟩
        · simp at h6
        · exact ⟨p, p1, ps, pos, by rw [h1], h2, h3, h4, h5⟩
      · simp [ckE] at h
    | _ => simp [ckE] at h
  | _ => simp [ckE] at h
theorem ck_blt {f : Bf} {es : EL} (h : ckE T N sc (.blt f es) pe = true) : ∃ p p1 ps pos, pe = .Call (.Name (bfN f : Str) p) (p1 :: ps) [] pos ∧ glob sc (bfN f : Str) = true ∧ (bfN f : Str) ∈ T.bl ∧ ckL T N sc es (p1 :: ps) = true ∧ bfOk f = true := by
  cases pe with
  | Call g ps ks pos =>
    cases g with
    | Name y p =>
      rcases ks with _ | ⟨k, ks⟩
      · simp only [ckE, Bool.and_eq_true, decide_eq_true_eq, Bool.not_eq_true'] at h
        obtain ⟨⟨⟨⟨⟨h1, h2⟩, h3⟩, h4⟩, h5⟩, h6⟩ := h
        subst h1
        rcases ps with _ | ⟨p1, ps⟩
        · simp at h5
        · exact ⟨p, p1, ps, pos, rfl, h2, h3, h4, h6⟩
      · simp [ckE] at h
    | _ => simp [ckE] at h
  | _ => simp [ckE] at h
theorem ck_isi {a : E} {ty : String} (h : ckE T N sc (.isi a ty) pe = true) : ∃ p pa q pos, pe = .Call (.Name "isinstance" p) [pa, .Name (ty : Str) q] [] pos ∧ glob sc "isinstance" = true ∧ glob sc (ty : Str) = true ∧ ("isinstance" : Str) ∈ T.bl ∧ (ty : Str) ∈ T.bl ∧ ty ∈ ["int", "bool", "str", "tuple", "list"] ∧ ckE T N sc a pa = true := by
  cases pe with
  | Call g ps ks pos =>
    cases g with
    | Name y p =>
      rcases ps with _ | ⟨p1, _ | ⟨p2, _ | ⟨p3, ps⟩⟩⟩ <;> rcases ks with _ | ⟨k, ks⟩ <;> try (simp [ckE] at h; done)
      cases p2 with
      | Name t q =>
        simp only [ckE, Bool.and_eq_true, decide_eq_true_eq] at h
        obtain ⟨⟨⟨⟨⟨⟨⟨h1, h2⟩, h3⟩, h4⟩, h5⟩, h6⟩, h7⟩, h8⟩ := h
        subst h1 h2
        exact ⟨p, p1, q, pos, rfl, h3, h4, h5, h6, h7, h8⟩
      | _ => simp [ckE] at h
    | _ => simp [ckE] at h
  | _ => simp [ckE] at h
theorem ck_mth {m : Mt} {o : E} {es : EL} (h : ckE T N sc (.mth m o es) pe = true) : ∃ po ap ps pos, pe = .Call (.Attribute po (mtN m : Str) ap) ps [] pos ∧ (ap.endLine == pos.line) = true ∧ plainOb po = true ∧ ckE T N sc o po = true ∧ ckL T N sc es ps = true ∧ mtOk m = true ∧ ps.length < 20 := by
  cases pe with
  | Call g ps ks pos =>
    cases g with
    | Attribute po nm ap =>
      rcases ks with _ | ⟨k, ks⟩
      · simp only [ckE, Bool.and_eq_true, decide_eq_true_eq] at h
        obtain ⟨⟨⟨⟨⟨⟨h1, h2⟩, h3⟩, h4⟩, h5⟩, h6⟩, h7⟩ := h
        subst h1
        exact ⟨po, ap, ps, pos, rfl, h2, h3, h4, h5, h6, h7⟩
      · simp [ckE] at h
    | _ => simp [ckE] at h
  | _ => simp [ckE] at h
theorem ck_comp {tg : List (Str × Nat)} {it : I} {cond : EO} {elt : E} (h : ckE T N sc (.comp tg it cond elt) pe = true) : ∃ p pt pit ifs scope pos, pe = .ListComp p [⟨pt, pit, ifs, 0⟩] scope pos ∧ L2.blkC N sc scope tg = true ∧ ckTg N (fun x => own scope x) tg pt = true ∧
    ckI T N sc it pt pit = true ∧ ckC T N (relS scope sc) cond ifs = true ∧ ckE T N (relS scope sc) elt p = true := by
  cases pe with
  | ListComp p gs scope pos =>
    rcases gs with _ | ⟨⟨pt, pit, ifs, k⟩, _ | ⟨g, gs⟩⟩ <;> try (simp [ckE] at h; done)
    rcases k with (_ | k) | k
    · simp only [Int.ofNat_eq_natCast, Int.ofNat_zero, ckE, Bool.and_eq_true] at h
      exact ⟨p, pt, pit, ifs, scope, pos, rfl, h.1.1.1.1, h.1.1.1.2, h.1.1.2, h.1.2, h.2⟩
    · exact absurd (show false = true from h) Bool.false_ne_true
    · exact absurd (show false = true from h) Bool.false_ne_true
  | _ => simp [ckE] at h
theorem ck_fst {es : EL} (h : ckE T N sc (.fst es) pe = true) : ∃ ps pos, pe = .JoinedStr ps pos ∧ 2 ≤ ps.length ∧ ckF T N sc es ps = true := by
  cases pe with
  | JoinedStr ps pos => simp only [ckE, Bool.and_eq_true, decide_eq_true_eq] at h; exact ⟨ps, pos, rfl, h.1, h.2⟩
  | _ => simp [ckE] at h
/-- no star fits -/
theorem ck_star {e : E} {q : Expr} {pos : Pos} (h : ckE T N sc e (.Starred q pos) = true) : False := by
  cases e <;> simp [ckE] at h
theorem ck_set {e : E} {es : List Expr} {k : Nat} {pos : Pos} (h : ckE T N sc e (.Set es k pos) = true) : False := by
  cases e <;> simp [ckE] at h
end
theorem star_of {p : Expr} {ps : List Expr} {env : Env} (h : ∀ q pos, p ≠ .Starred q pos) : starEach (p :: ps) env = (false, eval p env) :: starEach ps env := by
  cases p <;> first | rfl | exact absurd rfl (h _ _)
theorem ckL_plain {T : Nm} {N : List Str} {sc : Scope} {env : Env} {pos : Pos} : ∀ {es : EL} {ps : List Expr}, ckL T N sc es ps = true → (backTo pos (starEach ps env)).any (·.1) = false ∧ (backTo pos (starEach ps env)).all (fun x => !x.1) = true
  | .nil, [], _ => ⟨rfl, rfl⟩
  | .nil, _ :: _, h => by simp [ckL] at h
  | .cons _ _, [], h => by simp [ckL] at h
  | .cons e r, p :: ps, h => by
    simp only [ckL, Bool.and_eq_true] at h
    have h1 : starEach (p :: ps) env = (false, eval p env) :: starEach ps env := star_of fun q pos z => by subst z; exact ck_star h.1
    obtain ⟨q1, q2⟩ := ckL_plain (env := env) (pos := pos) h.2
    rw [h1]
    constructor
    · show (false || (backTo pos (starEach ps env)).any (·.1)) = false
      rw [q1]; rfl
    · show (true && (backTo pos (starEach ps env)).all (fun x => !x.1)) = true
      rw [q2]; rfl
theorem base_of {o : Expr} {m : Str} {env : Env} {wh : Sem Value} (h : plainOb o = true) : attributeBase o m env wh = wh := by
  unfold attributeBase
  split
  · exact absurd h Bool.false_ne_true
  · rfl
theorem plainIx_of {b : Expr} (h : plainIx b = true) : PlainIx b := by
  intro o i
  cases b <;> first | rfl | exact absurd h Bool.false_ne_true
theorem noset {e : Expr} (h : ∀ es k pos, e ≠ .Set es k pos) (env : Env) (x : Value) : foldedSetIterable e env x = pure x := by
  cases e <;> first | rfl | exact absurd rfl (h _ _ _)
end Sw

set_option Elab.async false
set_option linter.all false
set_option maxRecDepth 100000
set_option maxHeartbeats 1000000
/-! Sw, part G: the pieces of the expressions' soundness: walks, targets, comprehensions. -/
namespace Sw
open PySem PySem.Spec PyProof.Rows L2

/-! ### what is walked: a list, a tuple, a text -/
def anyIt (K : PySem.W.Frag) (x : V) (H1 : Hp) (R : It → Hp → Prop) : Prop :=
  (∃ a, x = .ref a ∧ (∃ xs, SqL K H1 a xs) ∧ R (Itl K a) H1) ∨ (∃ a, x = .ref a ∧ (∃ xs, SqT K H1 a xs) ∧ R (Itt K a) H1) ∨ ∃ z, x = .str z ∧ R (Its z) H1
theorem pi_any {X : Cx} {tg l : Expr} {tl : TE} (hl : PE X l tl) : PI X tg l (fun σ H R => tl σ H fun x H1 => anyIt X.K x H1 R) := by
  refine ⟨fun pins s σ H R I h => ?_⟩
  refine thn (hl.run pins s σ H _ I h) fun v s1 ⟨x, H1, I1, r1, q1⟩ => ?_
  rcases q1 with ⟨a, e, ⟨xs, hq⟩, q⟩ | ⟨a, e, ⟨xs, hq⟩, q⟩ | ⟨z, e, q⟩
  · subst e
    cases r1
    obtain ⟨its, rv, p, hz⟩ := I1.list hq
    refine wpAny_pyIter_list p.isList ?_
    refine ⟨s1.heap.objs.size, [s1.heap.objs.size], _, _, H1, rfl, I1.kept (t' := s1.toks) fun b o e => Heap.get?_push_of_some _ e, turn_list a _, ⟨_, Heap.get?_push_size _ rfl, rfl, rfl⟩, fun b hb => ?_, q⟩
    have e : b = s1.heap.objs.size := by simpa using hb
    subst e
    exact I1.fpOk (Nat.le_refl _) (I1.hok.fresh (Nat.le_refl _))
  · subst e
    cases r1
    obtain ⟨its, rv, p, hz⟩ := I1.tuple hq
    refine wpAny_pyIter_tuple (show s1.heap.IsTuple a its.toArray from p) ?_
    refine ⟨s1.heap.objs.size, [s1.heap.objs.size], _, _, H1, rfl, I1.kept (t' := s1.toks) fun b o e => Heap.get?_push_of_some _ e, turn_tuple a _, ⟨_, Heap.get?_push_size _ rfl, rfl, rfl⟩, fun b hb => ?_, q⟩
    have e : b = s1.heap.objs.size := by simpa using hb
    subst e
    exact I1.fpOk (Nat.le_refl _) (I1.hok.fresh (Nat.le_refl _))
  · subst e
    obtain ⟨t, rfl⟩ := r1
    cases ha : z.cps.all (· < 128)
    · exact wpAny_pyIter_wide ha (pi_one (tk := s1.toks) I1 _ (turn_str _ z t "str_iterator" (.inr rfl)) ⟨_, Heap.get?_push_size _ rfl, rfl, rfl⟩ q)
    · exact wpAny_pyIter_ascii ha (pi_one (tk := s1.toks) I1 _ (turn_str _ z t "str_ascii_iterator" (.inl rfl)) ⟨_, Heap.get?_push_size _ rfl, rfl, rfl⟩ q)

theorem stab_iff {S : Sto} {c : Srcs} : stab S c = true ↔ ∀ p ∈ c, S[p.1]? = some (.lst p.2) := by
  unfold stab
  simp only [decide_eq_true_eq]
section
variable {K : PySem.W.Frag} {mg : Str → Option Value} {A : List Addr} {H : Hp} {S : Sto}
theorem itr_tup {a : Addr} {ds : List D} {vs : List V} (h : SqT K H a vs) (r : Reps K A H ds vs) : ItR K mg A H ds [] (Itt K a) := by
  intro i A' S' H' x s _
  refine ⟨fun d e => ?_, fun e => ⟨vs, x.tp _ _ h, by rw [r.length, e]; exact Nat.le_refl _⟩⟩
  obtain ⟨v, h1, h2⟩ := r.get e
  refine ⟨⟨vs, v, x.tp _ _ h, h1⟩, fun y H2 q => ?_⟩
  obtain ⟨e1, e2⟩ := q
  subst e1
  have e3 := e2 vs (x.tp _ _ h)
  rw [h1] at e3
  cases e3
  exact ⟨Ext.refl, s, h2.mono x⟩
theorem itr_fl {a : Addr} {ds : List D} {vs : List V} (h : FzL K H a vs) (r : Reps K A H ds vs) : ItR K mg A H ds [] (Itl K a) := by
  intro i A' S' H' x s _
  refine ⟨fun d e => ?_, fun e => ⟨vs, (x.fz _ _ h).sq, by rw [r.length, e]; exact Nat.le_refl _⟩⟩
  obtain ⟨v, h1, h2⟩ := r.get e
  refine ⟨⟨vs, v, (x.fz _ _ h).sq, h1⟩, fun y H2 q => ?_⟩
  obtain ⟨e1, e2⟩ := q
  subst e1
  have e3 := e2 vs (x.fz _ _ h).sq
  rw [h1] at e3
  cases e3
  exact ⟨Ext.refl, s, h2.mono x⟩
/-- a list of the store at a later heap -/
theorem at_later {n : Nat} {a : Addr} {ds : List D} {A' : List Addr} {H' : Hp} {S' : Sto} (h : A[n]? = some a) (x : Ext K A H A' H') (s : Sim K mg A' S' H') (e : S'[n]? = some (.lst ds)) : ∃ vs, H' a = some (.lst vs) ∧ Reps K A' H' ds vs :=
  s.ob n a _ (x.at_ h) e
theorem itr_ref {n : Nat} {a : Addr} {ds : List D} (h : A[n]? = some a) : ItR K mg A H ds [(n, ds)] (Itl K a) := by
  intro i A' S' H' x s st
  have st := stab_iff.mp st (n, ds) (by simp)
  obtain ⟨vs, h1, r⟩ := at_later h x s st
  refine ⟨fun d e => ?_, fun e => ⟨vs, SqL.of h1, by rw [r.length, e]; exact Nat.le_refl _⟩⟩
  obtain ⟨v, h2, h3⟩ := r.get e
  refine ⟨⟨vs, v, SqL.of h1, h2⟩, fun y H2 q => ?_⟩
  obtain ⟨e1, e2⟩ := q
  subst e1
  have e3 := e2 vs (SqL.of h1)
  rw [h2] at e3
  cases e3
  exact ⟨Ext.refl, s, h3⟩
theorem itr_str {z : Str} : ItR K mg A H (z.cps.toList.map fun c => .str ⟨#[c]⟩) [] (Its z) := by
  intro i A' S' H' x s _
  refine ⟨fun d e => ?_, fun e => ?_⟩
  · rw [List.getElem?_map, Option.map_eq_some_iff] at e
    obtain ⟨c, e1, e2⟩ := e
    have hc : z.cps[i]? = some c := by rw [← e1]; simp
    refine ⟨(Array.getElem?_eq_some_iff.mp hc).1, fun y H2 q => ?_⟩
    obtain ⟨e3, c', e4, e5⟩ := q
    subst e3 e5
    rw [hc] at e4
    cases e4
    refine ⟨Ext.refl, s, ?_⟩
    rw [← e2]
    simp only [Rep]
  · show z.cps.size ≤ i
    have e : i = z.cps.size := by simpa using e
    rw [e]; exact Nat.le_refl _
theorem itr_rng {lo : Int} {n : Nat} : ItR K mg A H (rngD lo n) [] (Itr lo n) := by
  intro i A' S' H' x s _
  have hl : (rngD lo n).length = n := by unfold rngD; rw [List.length_map, List.length_range]
  refine ⟨fun d e => ?_, fun e => by rw [hl] at e; exact Nat.le_of_eq e.symm⟩
  have hi : i < n := by
    have := (List.getElem?_eq_some_iff.mp e).1
    rw [hl] at this; exact this
  have e1 : d = .int (lo + (i : Int)) := by
    unfold rngD at e
    rw [List.getElem?_map, List.getElem?_range hi] at e
    exact (Option.some.inj e).symm
  refine ⟨hi, fun y H2 q => ?_⟩
  obtain ⟨e2, e3⟩ := q
  subst e2 e3 e1
  exact ⟨Ext.refl, s, by simp only [Rep]⟩
/-- the value of what is walked -/
theorem walk_any {d : D} {v : V} {p : List D × Srcs} {R : It → Hp → Prop} (s : Sim K mg A S H) (r : Rep K A H d v) (e : walk S d = some p) (k : ∀ J, ItR K mg A H p.1 p.2 J → R J H) : anyIt K v H R := by
  cases d with
  | tup ds =>
    simp only [walk] at e; cases e
    simp only [Rep] at r
    obtain ⟨a, vs, e1, e2, e3⟩ := r
    exact .inr (.inl ⟨a, e1, ⟨vs, e2⟩, k _ (itr_tup e2 e3)⟩)
  | fl ds =>
    simp only [walk] at e; cases e
    simp only [Rep] at r
    obtain ⟨a, vs, e1, e2, e3⟩ := r
    exact .inl ⟨a, e1, ⟨vs, e2.sq⟩, k _ (itr_fl e2 e3)⟩
  | str z =>
    simp only [walk] at e; cases e
    simp only [Rep] at r
    exact .inr (.inr ⟨z, r, k _ itr_str⟩)
  | ref n =>
    simp only [walk] at e
    split at e
    · rename_i ds hd
      cases e
      obtain ⟨a, vs, e1, e2, e3, e4⟩ := s.lst r hd
      exact .inl ⟨a, e1, ⟨vs, SqL.of e3⟩, k _ (itr_ref e2)⟩
    · cases e
  | _ => simp [walk] at e

/-! ### zip of two -/
theorem stab_app {c c' : Srcs} (h : stab S (c ++ c') = true) : stab S c = true ∧ stab S c' = true := by
  rw [stab_iff] at h
  exact ⟨stab_iff.mpr fun p hp => h p (List.mem_append_left _ hp), stab_iff.mpr fun p hp => h p (List.mem_append_right _ hp)⟩
/-- a list or the script, at this heap and later -/
def LaterL (K : PySem.W.Frag) (mg : Str → Option Value) (A : List Addr) (H : Hp) (a : Addr) (ds : List D) (c : Srcs) : Prop :=
  ∀ A' S' H', Ext K A H A' H' → Sim K mg A' S' H' → stab S' c = true → ∃ vs, SqL K H' a vs ∧ Reps K A' H' ds vs
theorem seqs_later {d : D} {v : V} {b : Bool} {ds : List D} {c : Srcs} (s : Sim K mg A S H) (r : Rep K A H d v) (e : seqs? S d = some (b, ds, c)) :
    stab S c = true ∧ ∃ a vs, v = .ref a ∧ Reps K A H ds vs ∧ ((b = true ∧ c = [] ∧ SqT K H a vs) ∨ (b = false ∧ SqL K H a vs ∧ LaterL K mg A H a ds c)) := by
  cases d with
  | tup ds =>
    simp only [seqs?] at e; cases e
    simp only [Rep] at r
    obtain ⟨a, vs, e1, e2, e3⟩ := r
    exact ⟨stab_iff.mpr (fun _ h => by cases h), a, vs, e1, e3, .inl ⟨rfl, rfl, e2⟩⟩
  | fl ds =>
    simp only [seqs?] at e; cases e
    simp only [Rep] at r
    obtain ⟨a, vs, e1, e2, e3⟩ := r
    exact ⟨stab_iff.mpr (fun _ h => by cases h), a, vs, e1, e3, .inr ⟨rfl, e2.sq, fun A' S' H' x _ _ => ⟨vs, (x.fz _ _ e2).sq, e3.mono x⟩⟩⟩
  | ref n =>
    simp only [seqs?] at e
    split at e
    · rename_i es hd
      cases e
      obtain ⟨a, vs, e1, e2, e3, e4⟩ := s.lst r hd
      refine ⟨stab_iff.mpr fun p hp => ?_, a, vs, e1, e4, .inr ⟨rfl, SqL.of e3, fun A' S' H' x s' st => ?_⟩⟩
      · rw [List.mem_singleton.mp hp]; exact hd
      · obtain ⟨ws, h1, h2⟩ := at_later e2 x s' (stab_iff.mp st (n, ds) (by simp))
        exact ⟨ws, SqL.of h1, h2⟩
    · cases e
  | _ => simp [seqs?] at e
theorem rep_pair {p : Addr} {d e : D} {v w : V} {A' : List Addr} {H' : Hp} {S' : Sto} (s : Sim K mg A' S' H') (hp : H' p = none) (r1 : Rep K A' H' d v) (r2 : Rep K A' H' e w) :
    Ext K A' H' A' (upd H' p (.tup [v, w])) ∧ Sim K mg A' S' (upd H' p (.tup [v, w])) ∧ Rep K A' (upd H' p (.tup [v, w])) (.tup [d, e]) (.ref p) := new_tup s hp (Reps.cons r1 (Reps.cons r2 Reps.nil))
theorem zip_get {xs ys : List D} {i : Nat} {d : D} (h : ((xs.zip ys).map fun p => D.tup [p.1, p.2])[i]? = some d) : ∃ x y, xs[i]? = some x ∧ ys[i]? = some y ∧ d = .tup [x, y] := by
  rw [List.getElem?_map, Option.map_eq_some_iff] at h
  obtain ⟨p, h1, h2⟩ := h
  rw [List.getElem?_zip_eq_some] at h1
  exact ⟨p.1, p.2, h1.1, h1.2, h2.symm⟩
theorem enm_get {xs : List D} {i : Nat} {d : D} (h : (enmD xs)[i]? = some d) : ∃ x, xs[i]? = some x ∧ d = .tup [.int (i : Nat), x] := by
  unfold enmD at h
  rw [List.getElem?_map, Option.map_eq_some_iff] at h
  obtain ⟨p, h1, h2⟩ := h
  rw [List.getElem?_zipIdx, Option.map_eq_some_iff] at h1
  obtain ⟨x, h3, h4⟩ := h1
  subst h4
  exact ⟨x, h3, by rw [← h2, Nat.zero_add]⟩
theorem itr_enm {a : Addr} {xs : List D} {c : Srcs} (h1 : LaterL K mg A H a xs c) : ItR K mg A H (enmD xs) c (Ite K a) := by
  intro i A' S' H' x s st
  obtain ⟨vs, q1, r1⟩ := h1 A' S' H' x s st
  refine ⟨fun d e => ?_, fun e => ⟨vs, q1, ?_⟩⟩
  · obtain ⟨d1, e1, rfl⟩ := enm_get e
    obtain ⟨v, f1, g1⟩ := r1.get e1
    refine ⟨⟨vs, v, q1, f1⟩, fun y H2 q => ?_⟩
    obtain ⟨p, v', rfl, hp, rfl, k1⟩ := q
    have z1 := k1 vs q1
    rw [f1] at z1
    cases z1
    exact rep_pair s hp (by simp only [Rep]) g1
  · unfold enmD at e
    rw [List.length_map, List.length_zipIdx] at e
    rw [r1.length]; omega
theorem itr_zipL {a b : Addr} {xs ys : List D} {c c' : Srcs} (h1 : LaterL K mg A H a xs c) (h2 : LaterL K mg A H b ys c') : ItR K mg A H ((xs.zip ys).map fun p => .tup [p.1, p.2]) (c ++ c') (Itz K a b) := by
  intro i A' S' H' x s st
  obtain ⟨s1, s2⟩ := stab_app st
  obtain ⟨vs, q1, r1⟩ := h1 A' S' H' x s s1
  obtain ⟨ws, q2, r2⟩ := h2 A' S' H' x s s2
  refine ⟨fun d e => ?_, fun e => ⟨vs, ws, q1, q2, ?_⟩⟩
  · obtain ⟨d1, d2, e1, e2, rfl⟩ := zip_get e
    obtain ⟨v, f1, g1⟩ := r1.get e1
    obtain ⟨w, f2, g2⟩ := r2.get e2
    refine ⟨⟨vs, ws, v, w, q1, q2, f1, f2⟩, fun y H2 q => ?_⟩
    obtain ⟨p, v', w', rfl, hp, rfl, k1, k2⟩ := q
    have z1 := k1 vs q1
    have z2 := k2 ws q2
    rw [f1] at z1; rw [f2] at z2
    cases z1; cases z2
    exact rep_pair s hp g1 g2
  · rw [List.length_map, List.length_zip] at e
    rw [r1.length, r2.length]; omega
theorem itr_zipT {a b : Addr} {xs ys : List D} {vs ws : List V} (q1 : SqT K H a vs) (q2 : SqT K H b ws) (r1 : Reps K A H xs vs) (r2 : Reps K A H ys ws) : ItR K mg A H ((xs.zip ys).map fun p => .tup [p.1, p.2]) [] (RZ.ItzT K a b) := by
  intro i A' S' H' x s st
  refine ⟨fun d e => ?_, fun e => ⟨vs, ws, x.tp _ _ q1, x.tp _ _ q2, ?_⟩⟩
  · obtain ⟨d1, d2, e1, e2, rfl⟩ := zip_get e
    obtain ⟨v, f1, g1⟩ := r1.get e1
    obtain ⟨w, f2, g2⟩ := r2.get e2
    refine ⟨⟨vs, ws, v, w, x.tp _ _ q1, x.tp _ _ q2, f1, f2⟩, fun y H2 q => ?_⟩
    obtain ⟨p, v', w', rfl, hp, rfl, k1, k2⟩ := q
    have z1 := k1 vs (x.tp _ _ q1)
    have z2 := k2 ws (x.tp _ _ q2)
    rw [f1] at z1; rw [f2] at z2
    cases z1; cases z2
    exact rep_pair s hp (g1.mono x) (g2.mono x)
  · rw [List.length_map, List.length_zip] at e
    rw [r1.length, r2.length]; omega
end
theorem zip3_get {xs ys zs : List D} {i : Nat} {d : D} (h : ((xs.zip (ys.zip zs)).map fun p => D.tup [p.1, p.2.1, p.2.2])[i]? = some d) : ∃ x y z, xs[i]? = some x ∧ ys[i]? = some y ∧ zs[i]? = some z ∧ d = .tup [x, y, z] := by
  rw [List.getElem?_map, Option.map_eq_some_iff] at h
  obtain ⟨p, h1, h2⟩ := h
  rw [List.getElem?_zip_eq_some, List.getElem?_zip_eq_some] at h1
  exact ⟨p.1, p.2.1, p.2.2, h1.1, h1.2.1, h1.2.2, h2.symm⟩
theorem itr_zip3 {K : PySem.W.Frag} {mg : Str → Option Value} {A : List Addr} {H : Hp} {a b c : Addr} {xs ys zs : List D} {vs ws us : List V} (q1 : SqT K H a vs) (q2 : SqT K H b ws) (q3 : SqT K H c us) (r1 : Reps K A H xs vs) (r2 : Reps K A H ys ws) (r3 : Reps K A H zs us) :
    ItR K mg A H ((xs.zip (ys.zip zs)).map fun p => .tup [p.1, p.2.1, p.2.2]) [] (Itz3 K a b c) := by
  intro i A' S' H' x s st
  refine ⟨fun d e => ?_, fun e => ⟨vs, ws, us, x.tp _ _ q1, x.tp _ _ q2, x.tp _ _ q3, ?_⟩⟩
  · obtain ⟨d1, d2, d3, e1, e2, e3, rfl⟩ := zip3_get e
    obtain ⟨v, f1, g1⟩ := r1.get e1
    obtain ⟨w, f2, g2⟩ := r2.get e2
    obtain ⟨u, f3, g3⟩ := r3.get e3
    refine ⟨⟨vs, ws, us, v, w, u, x.tp _ _ q1, x.tp _ _ q2, x.tp _ _ q3, f1, f2, f3⟩, fun y H2 q => ?_⟩
    obtain ⟨p, v', w', u', rfl, hp, rfl, k1, k2, k3⟩ := q
    have z1 := k1 vs (x.tp _ _ q1)
    have z2 := k2 ws (x.tp _ _ q2)
    have z3 := k3 us (x.tp _ _ q3)
    rw [f1] at z1; rw [f2] at z2; rw [f3] at z3
    cases z1; cases z2; cases z3
    exact new_tup s hp (Reps.cons (g1.mono x) (Reps.cons (g2.mono x) (Reps.cons (g3.mono x) Reps.nil)))
  · rw [List.length_map, List.length_zip, List.length_zip] at e
    rw [r1.length, r2.length, r3.length]; omega

/-! ### targets -/
/-- the names of u have no word yet -/
def EnvX (K : PySem.W.Frag) (A : List Addr) (H : Hp) (u : List Nat) (env : Sl) (σ : L2.St) : Prop := env.length = σ.length ∧ ∀ (i : Nat) d, i ∉ u → env[i]? = some (some d) → ∃ v, σ[i]? = some (some v) ∧ Rep K A H d v
theorem EnvX.set {K : PySem.W.Frag} {A : List Addr} {H : Hp} {u : List Nat} {j : Nat} {env : Sl} {σ : L2.St} (h : EnvX K A H (j :: u) env σ) {d : D} {v : V} (r : Rep K A H d v) : EnvX K A H u (env.set j (some d)) (σ.set j (some v)) := by
  refine ⟨by rw [List.length_set, List.length_set]; exact h.1, fun i e hi q => ?_⟩
  by_cases hj : j = i
  · subst hj
    by_cases hl : j < env.length
    · rw [List.getElem?_set_self hl] at q
      rw [List.getElem?_set_self (by rw [← h.1]; exact hl)]
      cases q
      exact ⟨v, rfl, r⟩
    · rw [List.getElem?_eq_none (by simpa using hl)] at q; cases q
  · rw [List.getElem?_set_ne hj] at q
    rw [List.getElem?_set_ne hj]
    exact h.2 i e (fun z => (List.mem_cons.mp z).elim (fun z => hj z.symm) hi) q
theorem EnvR.x {K : PySem.W.Frag} {A : List Addr} {H : Hp} {u : List Nat} {env : Sl} {σ : L2.St} (h : EnvR K A H env σ) : EnvX K A H u env σ := ⟨h.1, fun i d _ e => h.2 i d e⟩
theorem EnvX.r {K : PySem.W.Frag} {A : List Addr} {H : Hp} {env : Sl} {σ : L2.St} (h : EnvX K A H [] env σ) : EnvR K A H env σ := ⟨h.1, fun i d e => h.2 i d (by simp) e⟩
theorem EnvX_wipe {K : PySem.W.Frag} {A : List Addr} {H : Hp} {env : Sl} {σ : L2.St} (h : EnvR K A H env σ) (u : List Nat) : EnvX K A H u env (wipe σ u) := by
  refine ⟨by rw [wipe_length]; exact h.1, fun i d hi e => ?_⟩
  obtain ⟨v, h1, h2⟩ := h.2 i d e
  refine ⟨v, ?_, h2⟩
  have : ∀ u : List Nat, i ∉ u → (wipe σ u)[i]? = some (some v) := by
    intro u
    induction u with
    | nil => intro _; exact h1
    | cons j u ih =>
      intro hn
      unfold L2.wipe
      rw [List.getElem?_set_ne fun z => hn (by rw [z]; exact List.mem_cons_self)]
      exact ih fun z => hn (List.mem_cons_of_mem _ z)
  exact this u hi
theorem wipe_get (σ : L2.St) (u : List Nat) (i : Nat) : (wipe σ u)[i]? = if i ∈ u ∧ i < σ.length then some none else σ[i]? := by
  induction u with
  | nil => simp [wipe]
  | cons j u ih =>
    unfold wipe
    by_cases hj : j = i
    · subst hj
      by_cases hl : j < σ.length
      · rw [List.getElem?_set_self (by rw [wipe_length]; exact hl)]; simp [hl]
      · rw [List.getElem?_eq_none (by simp [wipe_length]; omega)]
        rw [if_neg (by omega), List.getElem?_eq_none (by omega)]
    · rw [List.getElem?_set_ne hj, ih]
      have : i ∈ j :: u ↔ i ∈ u := ⟨fun z => (List.mem_cons.mp z).elim (fun z => absurd z.symm hj) id, List.mem_cons_of_mem _⟩
      simp only [this]
theorem wipe_set {σ : L2.St} {u : List Nat} {i : Nat} {x : Option V} (h : i ∈ u) : wipe (σ.set i x) u = wipe σ u := by
  apply List.ext_getElem?
  intro k
  rw [wipe_get, wipe_get, List.length_set]
  by_cases hk : k ∈ u ∧ k < σ.length
  · rw [if_pos hk, if_pos hk]
  · rw [if_neg hk, if_neg hk]
    by_cases hi : i = k
    · subst hi
      have : ¬ i < σ.length := fun z => hk ⟨h, z⟩
      rw [List.getElem?_eq_none (by simpa using this), List.getElem?_eq_none (by omega)]
    · rw [List.getElem?_set_ne hi]
theorem wipe_wipe {σ : L2.St} {u : List Nat} : wipe (wipe σ u) u = wipe σ u := by
  apply List.ext_getElem?
  intro k
  rw [wipe_get, wipe_get, wipe_length]
  by_cases hk : k ∈ u ∧ k < σ.length
  · simp only [if_pos hk]
  · simp only [if_neg hk]
/-- several names, in their order -/
def gNs : List (Str × Nat) → TGs
  | [] => gNil
  | p :: r => gCons (gName p.2) (gNs r)
def gOf (K : PySem.W.Frag) : List (Str × Nat) → TG
  | [p] => gName p.2
  | tg => gTup K tg.length (gNs tg)
theorem gNs_go {K : PySem.W.Frag} {A : List Addr} {H : Hp} {Q : L2.St → Hp → Prop} : ∀ {tg : List (Str × Nat)} {ds : List D} {vs : List V} {env : Sl} {σ : L2.St}, Reps K A H ds vs → ds.length = tg.length → EnvX K A H (tg.map (·.2)) env σ →
    (∀ σ', EnvR K A H ((tg.zip ds).foldl (fun σ p => σ.set p.1.2 (some p.2)) env) σ' → (∀ u : List Nat, (∀ p ∈ tg, p.2 ∈ u) → wipe σ' u = wipe σ u) → Q σ' H) → gNs tg vs σ H Q
  | [], ds, vs, env, σ, r, hl, he, q => by
    have e : ds = [] := List.eq_nil_of_length_eq_zero hl
    subst e
    simp only [Reps] at r
    subst r
    exact ⟨rfl, q σ he.r fun _ _ => rfl⟩
  | p :: tg, [], vs, env, σ, r, hl, he, q => by simp at hl
  | p :: tg, d :: ds, vs, env, σ, r, hl, he, q => by
    simp only [Reps] at r
    obtain ⟨v, r', e, r1, r2⟩ := r
    subst e
    refine ⟨v, r', rfl, ?_⟩
    refine gNs_go (tg := tg) r2 (by simpa using hl) (EnvX.set (u := tg.map (·.2)) he r1) fun σ' h1 h2 => q σ' h1 fun u hu => ?_
    rw [h2 u fun p hp => hu p (List.mem_cons_of_mem _ hp), wipe_set (hu p List.mem_cons_self)]
theorem gOf_go {K : PySem.W.Frag} {A : List Addr} {H : Hp} {Q : L2.St → Hp → Prop} {tg : List (Str × Nat)} {d : D} {v : V} {env env' : Sl} {σ : L2.St} (r : Rep K A H d v) (he : EnvX K A H (tg.map (·.2)) env σ) (hb : bindT tg d env = some env')
    (q : ∀ σ', EnvR K A H env' σ' → (∀ u : List Nat, (∀ p ∈ tg, p.2 ∈ u) → wipe σ' u = wipe σ u) → Q σ' H) : gOf K tg v σ H Q := by
  have many : ∀ tg : List (Str × Nat), gOf K tg = gTup K tg.length (gNs tg) → EnvX K A H (tg.map (·.2)) env σ → (∃ ds, d = .tup ds ∧ ds.length = tg.length ∧ (tg.zip ds).foldl (fun σ p => σ.set p.1.2 (some p.2)) env = env') →
      (∀ σ', EnvR K A H env' σ' → (∀ u : List Nat, (∀ p ∈ tg, p.2 ∈ u) → wipe σ' u = wipe σ u) → Q σ' H) → gOf K tg v σ H Q := by
    intro tg hg he ⟨ds, e1, e2, e3⟩ q
    subst e1
    simp only [Rep] at r
    obtain ⟨a, vs, rfl, h1, h2⟩ := r
    rw [hg]
    refine ⟨a, vs, rfl, h1, by rw [h2.length]; exact e2, gNs_go h2 e2 he fun σ' h3 h4 => q σ' (by rw [← e3]; exact h3) h4⟩
  rcases tg with _ | ⟨p, _ | ⟨p', tg⟩⟩
  · refine many [] rfl he ?_ q
    cases d with
    | tup ds =>
      simp only [bindT] at hb
      split at hb
      · rename_i hl; exact ⟨ds, rfl, hl, Option.some.inj hb⟩
      · cases hb
    | _ => simp [bindT] at hb
  · have e : env.set p.2 (some d) = env' := by
      obtain ⟨x, i⟩ := p
      simp only [bindT] at hb
      exact Option.some.inj hb
    refine q _ (by rw [← e]; exact (EnvX.set (u := []) he r).r) fun u hu => wipe_set (hu p List.mem_cons_self)
  · refine many (p :: p' :: tg) rfl he ?_ q
    cases d with
    | tup ds =>
      simp only [bindT] at hb
      split at hb
      · rename_i hl; exact ⟨ds, rfl, hl, Option.some.inj hb⟩
      · cases hb
    | _ => simp [bindT] at hb
theorem pgs_of {X : Cx} {ok : Str → Bool} (hN : X.N.Nodup) (hok : ∀ x, ok x = true → Loc X.env.scope x ∧ (X.fn x = true ∨ X.env.scope.names.lookup x = some .local)) : ∀ {tg : List (Str × Nat)} {es : List Expr}, ckTs X.N ok tg es = true → PGs X es (gNs tg)
  | [], [], _ => pgs_nil
  | [], _ :: _, h => by simp [ckTs] at h
  | _ :: _, [], h => by simp [ckTs] at h
  | (x, i) :: r, e :: es, h => by
    cases e with
    | Name y pos =>
      simp only [ckTs, Bool.and_eq_true, decide_eq_true_eq] at h
      obtain ⟨⟨⟨h1, h2⟩, h3⟩, h4⟩ := h
      subst h1
      obtain ⟨k1, k2⟩ := hok x h3
      exact pgs_cons (pg_name (i := i) hN h2 k1 k2) (pgs_of hN hok h4)
    | _ => simp [ckTs] at h
theorem each_of {N : List Str} {ok : Str → Bool} {env : Env} : ∀ {tg : List (Str × Nat)} {es : List Expr}, ckTs N ok tg es = true → (assignEach es env).length = es.length ∧ List.findIdx? (fun x => x.fst) (assignEach es env) = none
  | [], [], _ => ⟨rfl, rfl⟩
  | [], _ :: _, h => by simp [ckTs] at h
  | _ :: _, [], h => by simp [ckTs] at h
  | (x, i) :: r, e :: es, h => by
    cases e with
    | Name y pos =>
      simp only [ckTs, Bool.and_eq_true] at h
      obtain ⟨h1, h2⟩ := each_of (env := env) h.2
      have e1 : assignEach (.Name y pos :: es) env = (false, assign (.Name y pos) env) :: assignEach es env := rfl
      rw [e1]
      refine ⟨by rw [List.length_cons, List.length_cons, h1], ?_⟩
      rw [List.findIdx?_cons, h2]
      rfl
    | _ => simp [ckTs] at h
theorem pg_of {X : Cx} {ok : Str → Bool} (hc : X.calm = true) (hN : X.N.Nodup) (hok : ∀ x, ok x = true → Loc X.env.scope x ∧ (X.fn x = true ∨ X.env.scope.names.lookup x = some .local)) {tg : List (Str × Nat)} {e : Expr} (h : ckTg X.N ok tg e = true) : PG X e (gOf X.K tg) := by
  have many : ∀ {tg : List (Str × Nat)} {es : List Expr} {k : Nat} {pos : Pos}, 2 ≤ tg.length → ckTs X.N ok tg es = true → PG X (.Tuple es k pos) (gOf X.K tg) := by
    intro tg es k pos hl h
    have hlen : ∀ {tg : List (Str × Nat)} {es : List Expr}, ckTs X.N ok tg es = true → es.length = tg.length := by
      intro tg
      induction tg with
      | nil => intro es h; cases es with
        | nil => rfl
        | cons _ _ => simp [ckTs] at h
      | cons p tg ih =>
        intro es h
        cases es with
        | nil => obtain ⟨x, i⟩ := p; simp [ckTs] at h
        | cons e es =>
          obtain ⟨x, i⟩ := p
          cases e with
          | Name y pos =>
            simp only [ckTs, Bool.and_eq_true] at h
            rw [List.length_cons, List.length_cons, ih h.2]
          | _ => simp [ckTs] at h
    have e : gOf X.K tg = gTup X.K tg.length (gNs tg) := by
      rcases tg with _ | ⟨p, _ | ⟨p', tg⟩⟩
      · rfl
      · simp at hl
      · rfl
    rw [e, ← hlen h]
    obtain ⟨a1, a2⟩ := each_of (env := X.env) h
    exact pg_tup hc (pgs_of hN hok h) a1 a2
  rcases tg with _ | ⟨⟨x, i⟩, _ | ⟨p', tg⟩⟩
  · cases e <;> simp [ckTg] at h
  · cases e with
    | Name y pos =>
      simp only [ckTg, Bool.and_eq_true, decide_eq_true_eq] at h
      obtain ⟨⟨h1, h2⟩, h3⟩ := h
      subst h1
      obtain ⟨k1, k2⟩ := hok x h3
      exact pg_name (i := i) hN h2 k1 k2
    | Tuple es k pos => simp [ckTg] at h
    | _ => simp [ckTg] at h
  · cases e with
    | Tuple es k pos =>
      simp only [ckTg, Bool.and_eq_true, decide_eq_true_eq] at h
      exact many h.1 h.2
    | _ => simp [ckTg] at h
end Sw

set_option Elab.async false
set_option linter.all false
set_option maxRecDepth 100000
set_option maxHeartbeats 1000000
/-! Sw, part H: comprehensions; the expressions' soundness. -/
namespace Sw
open PySem PySem.Spec PyProof.Rows L2

def rTb (X : Cx) (W : WX) (m : Sl → Sto → R Bool) : TT := fun σ H Q => ∃ A S env, EnvR X.K A H env σ ∧ Sim X.K X.mg A S H ∧ PostG X.K X.mg relB (WE W σ) A H (m env S) Q
theorem PTs.imp {X : Cx} {e : List Expr} {t t' : TT} (h : PTs X e t) (k : ∀ σ H Q, t' σ H Q → t σ H Q) : PTs X e t' := ⟨fun pins s σ H Q I q => h.run pins s σ H Q I (k σ H Q q)⟩
theorem not_lst {xs : List V} : (∀ zs, HO.lst xs ≠ .tup zs) ∧ (∀ ob w, HO.lst xs ≠ .frz ob w) := ⟨fun _ => nofun, fun _ _ => nofun⟩

theorem comp_go {X : Cx} {tg : List (Str × Nat)} {c : Srcs} {ds0 : List D} {J : It} {A1 : List Addr} {H1 : Hp} {S1 : Sto} {env : Sl} {σ : L2.St} {Q : VK} {E : XK} {mc : Sl → Sto → R Bool} {me : Sl → Sto → R D}
    (hJ : ItR X.K X.mg A1 H1 ds0 c J) (he : EnvR X.K A1 H1 env σ) (hs : Sim X.K X.mg A1 S1 H1)
    (hp : PostG X.K X.mg (relD X.K) E A1 H1 ((compL (fun σ S => (mc σ S).quiet) (fun σ S => (me σ S).quiet) tg c ds0 env S1 []).bind fun ds S2 => .ok (.ref S2.length) (S2 ++ [.lst ds])) Q)
    (Dl : Addr) (hD : H1 Dl = none) :
    ∃ W : Nat → Nat → Hp → Prop, (∃ m, W 0 m (upd H1 Dl (.lst []))) ∧ ∀ i m H, W i m H →
      (J.stop i H ∧ Q (.ref Dl) H) ∨ (J.go i H ∧ ∃ Nx : Hp → Prop, (∀ H', Nx H' → ∃ m', m' < m ∧ W (i + 1) m' H') ∧ ∀ x H', J.yld i H x H' → gOf X.K tg x (wipe σ (tg.map (·.2))) H' fun σ2 H2 => wipe σ2 (tg.map (·.2)) = wipe σ (tg.map (·.2)) ∧ rTb X W0 mc σ2 H2 fun b H3 =>
        if b = true then rE X W0 me σ2 H3 fun y H4 => ∃ acc, H4 Dl = some (.lst acc) ∧ acc.length < sizeLine ∧ Nx (upd H4 Dl (.lst (acc ++ [y]))) else Nx H3) := by
  -- what holds between two turns
  refine ⟨fun i m H => m = ds0.length - i ∧ i ≤ ds0.length ∧ ∃ (A : List Addr) (S : Sto) (ac : List D) (av : List V), Ext X.K A1 H1 A H ∧ Sim X.K X.mg A S H ∧ Dl ∉ A ∧ H Dl = some (.lst av) ∧ Reps X.K A H ac av ∧
    PostG X.K X.mg (relD X.K) E A1 H1 ((compL (fun σ S => (mc σ S).quiet) (fun σ S => (me σ S).quiet) tg c (ds0.drop i) env S ac).bind fun ds S2 => .ok (.ref S2.length) (S2 ++ [.lst ds])) Q,
    ⟨_, rfl, Nat.zero_le _, A1, S1, [], [], Ext.new hD, hs.new hD, hs.fresh hD, upd_same, Reps.nil, by rw [List.drop_zero]; exact hp⟩, ?_⟩
  rintro i m H ⟨rfl, hi, A, S, ac, av, x, s, hA, hl, hr, hq⟩
  by_cases hlt : i < ds0.length
  · rw [List.drop_eq_getElem_cons hlt] at hq
    simp only [compL] at hq
    split at hq
    · rename_i hst
      obtain ⟨g1, _⟩ := hJ i A S H x s hst
      obtain ⟨go, yl⟩ := g1 ds0[i] (List.getElem?_eq_getElem hlt)
      split at hq
      · rename_i env1 hb
        refine .inr ⟨go, fun H' => ∃ m', m' < ds0.length - i ∧ (m' = ds0.length - (i + 1) ∧ i + 1 ≤ ds0.length ∧ ∃ (A : List Addr) (S : Sto) (ac : List D) (av : List V), Ext X.K A1 H1 A H' ∧ Sim X.K X.mg A S H' ∧ Dl ∉ A ∧ H' Dl = some (.lst av) ∧ Reps X.K A H' ac av ∧
          PostG X.K X.mg (relD X.K) E A1 H1 ((compL (fun σ S => (mc σ S).quiet) (fun σ S => (me σ S).quiet) tg c (ds0.drop (i + 1)) env S ac).bind fun ds S2 => .ok (.ref S2.length) (S2 ++ [.lst ds])) Q), fun H' h => h, fun y H' hy => ?_⟩
        obtain ⟨x2, s2, r2⟩ := yl y H' hy
        refine gOf_go r2 (EnvX_wipe (he.mono (x.trans x2)) _) hb fun σ2 e2 w2 => ⟨?_, ?_⟩
        · rw [w2 _ fun p hp => List.mem_map_of_mem hp, wipe_wipe]
        · have hl2 : H' Dl = some (.lst av) := x2.kp _ _ hl hA
          have fin : ∀ {A3 : List Addr} {S3 : Sto} {H3 : Hp} {ac' : List D} {av' : List V}, Ext X.K A1 H1 A3 H3 → Sim X.K X.mg A3 S3 H3 → Dl ∉ A3 → H3 Dl = some (.lst av') → Reps X.K A3 H3 ac' av' →
              PostG X.K X.mg (relD X.K) E A1 H1 ((compL (fun σ S => (mc σ S).quiet) (fun σ S => (me σ S).quiet) tg c (ds0.drop (i + 1)) env S3 ac').bind fun ds S2 => .ok (.ref S2.length) (S2 ++ [.lst ds])) Q →
              ∃ m', m' < ds0.length - i ∧ (m' = ds0.length - (i + 1) ∧ i + 1 ≤ ds0.length ∧ ∃ (A : List Addr) (S : Sto) (ac : List D) (av : List V), Ext X.K A1 H1 A H3 ∧ Sim X.K X.mg A S H3 ∧ Dl ∉ A ∧ H3 Dl = some (.lst av) ∧ Reps X.K A H3 ac av ∧
                PostG X.K X.mg (relD X.K) E A1 H1 ((compL (fun σ S => (mc σ S).quiet) (fun σ S => (me σ S).quiet) tg c (ds0.drop (i + 1)) env S ac).bind fun ds S2 => .ok (.ref S2.length) (S2 ++ [.lst ds])) Q) :=
            fun a b c d e f => ⟨_, by omega, rfl, hlt, _, _, _, _, a, b, c, d, e, f⟩
          have later : ∀ {A3 : List Addr} {H3 : Hp}, Ext X.K A H A3 H3 → Dl ∉ A3 := fun {A3 H3} z hm => by
            obtain ⟨B, e, n⟩ := z.ap
            rw [e] at hm
            rcases List.mem_append.mp hm with hm | hm
            · exact hA hm
            · rw [n _ hm] at hl; cases hl
          refine ⟨A, S, env1, e2, s2, ?_⟩
          cases hc : mc env1 S with
          | no => rw [hc] at hq; exact hq.elim
          | er _ _ _ => rw [hc] at hq; exact hq.elim
          | ok b S3 =>
            rw [hc] at hq
            simp only [quiet_ok, bind_ok] at hq
            intro A3 H3 b' x3 s3 eb
            have eb : b = b' := eb
            subst eb
            cases b with
            | false => exact fin ((x.trans x2).trans x3) s3 (later (x2.trans x3)) (x3.kp _ _ hl2 hA) (hr.mono (x2.trans x3)) hq
            | true =>
              simp only [if_true] at hq ⊢
              refine ⟨A3, S3, env1, e2.mono x3, s3, ?_⟩
              cases hy : me env1 S3 with
              | no => rw [hy] at hq; exact hq.elim
              | er _ _ _ => rw [hy] at hq; exact hq.elim
              | ok d S4 =>
                rw [hy] at hq
                simp only [quiet_ok, bind_ok] at hq
                split at hq
                · rename_i hlen
                  intro A4 H4 v x4 s4 r4
                  have xx := (x2.trans x3).trans x4
                  have h4 : H4 Dl = some (.lst av) := xx.kp _ _ hl hA
                  have n4 := later xx
                  obtain ⟨s5, m5⟩ := s4.mut (o := .lst (av ++ [v])) n4 h4 not_lst.1 not_lst.2
                  refine ⟨av, h4, by rw [hr.length]; exact hlen, fin (((x.trans xx)).mut hD h4 not_lst.1 not_lst.2) s5 n4 upd_same ?_ hq⟩
                  exact (Reps.mon m5 _ (hr.mono xx)).append (Reps.cons (Rep.mon m5 _ r4) Reps.nil)
                · exact hq.elim
      · exact hq.elim
    · exact hq.elim
  · have e : i = ds0.length := by omega
    subst e
    rw [List.drop_length] at hq
    simp only [compL] at hq
    split at hq
    · rename_i hst
      obtain ⟨_, g2⟩ := hJ _ A S H x s hst
      refine .inl ⟨g2 rfl, ?_⟩
      refine hq (A ++ [Dl]) H (.ref Dl) (x.joins hD) (s.join hA ⟨av, hl, hr⟩) ?_
      simp only [relD, Rep]
      exact ⟨Dl, rfl, by rw [← s.len, List.getElem?_append_right (Nat.le_refl _), Nat.sub_self]; rfl⟩
    · exact hq.elim

/-! ### built-in functions and methods, by their names -/
theorem cl_one {X : Cx} {v : Value} {f : Bf} {g : D → Sto → R D} (h : CallR X v (r1 X g)) (e : ∀ (ds : List D) (S : Sto), (∀ d, ds = [d] → opF f ds S = g d S) ∧ ((∀ d, ds ≠ [d]) → opF f ds S = .no)) : CallR X v (rF X (opF f)) := by
  intro pins s σ H xs us Q I r q
  obtain ⟨E, A, S, ds, hs, hr, hp⟩ := q
  obtain ⟨e1, e2⟩ := e ds S
  rcases ds with _ | ⟨d, _ | ⟨d', ds⟩⟩
  · rw [e2 fun d => nofun] at hp; exact hp.elim
  · rw [e1 d rfl] at hp
    obtain ⟨v, rfl, hv⟩ := reps1 hr
    exact h pins s σ H _ us Q I r ⟨E, A, S, d, v, rfl, hs, hv, hp⟩
  · rw [e2 fun d => nofun] at hp; exact hp.elim
theorem cl_two {X : Cx} {v : Value} {f : Bf} {g : D → D → Sto → R D} (h : CallR X v (r2 X g)) (e : ∀ (ds : List D) (S : Sto), (∀ d d', ds = [d, d'] → opF f ds S = g d d' S) ∧ ((∀ d d', ds ≠ [d, d']) → opF f ds S = .no)) : CallR X v (rF X (opF f)) := by
  intro pins s σ H xs us Q I r q
  obtain ⟨E, A, S, ds, hs, hr, hp⟩ := q
  obtain ⟨e1, e2⟩ := e ds S
  rcases ds with _ | ⟨d, _ | ⟨d', _ | ⟨d'', ds⟩⟩⟩
  · rw [e2 fun d d' => nofun] at hp; exact hp.elim
  · rw [e2 fun d d' => nofun] at hp; exact hp.elim
  · rw [e1 d d' rfl] at hp
    obtain ⟨v, w, rfl, hv, hw⟩ := reps2 hr
    exact h pins s σ H _ us Q I r ⟨E, A, S, d, d', v, w, rfl, hs, hv, hw, hp⟩
  · rw [e2 fun d d' => nofun] at hp; exact hp.elim
theorem opF_one {f : Bf} {g : D → Sto → R D} (h : ∀ d S, opF f [d] S = g d S) (h2 : ∀ d d' S, opF f [d, d'] S = .no) : ∀ (ds : List D) (S : Sto), (∀ d, ds = [d] → opF f ds S = g d S) ∧ ((∀ d, ds ≠ [d]) → opF f ds S = .no)
  | [], S => ⟨(fun d e => nomatch e), fun _ => rfl⟩
  | [d], S => ⟨fun d' e => by cases e; exact h d S, fun e => absurd rfl (e d)⟩
  | [d, d'], S => ⟨(fun d e => nomatch e), fun _ => h2 d d' S⟩
  | d :: d' :: d'' :: ds, S => ⟨(fun d e => nomatch e), fun _ => rfl⟩
theorem opF_two {f : Bf} {g : D → D → Sto → R D} (h : ∀ d S, opF f [d] S = .no) (h2 : ∀ d d' S, opF f [d, d'] S = g d d' S) : ∀ (ds : List D) (S : Sto), (∀ d d', ds = [d, d'] → opF f ds S = g d d' S) ∧ ((∀ d d', ds ≠ [d, d']) → opF f ds S = .no)
  | [], S => ⟨(fun d d' e => nomatch e), fun _ => rfl⟩
  | [d], S => ⟨(fun d' _ e => nomatch e), fun e => h d S⟩
  | [d, d'], S => ⟨fun a b e => by cases e; exact h2 d d' S, fun e => absurd rfl (e d d')⟩
  | d :: d' :: d'' :: ds, S => ⟨(fun d _ e => nomatch e), fun _ => rfl⟩
theorem blt_pe {X : Cx} {f : Bf} {p pos : Pos} {p1 : Expr} {ps : List Expr} {t : TA} (hc : X.calm = true) (hf : bfOk f = true) (hg : Gl X (bfN f : Str)) (hm : X.mg (bfN f : Str) = none) (ha : PA X (p1 :: ps) t)
    (he : starEach (p1 :: ps) X.env = (false, eval p1 X.env) :: starEach ps X.env) (hpl : (backTo pos (starEach ps X.env)).any (·.1) = false) : PE X (.Call (.Name (bfN f : Str) p) (p1 :: ps) [] pos) (tCB (rF X (opF f)) t) := by
  cases f with
  | len => exact pe_callB (cl_one cl_len (opF_one (fun _ _ => rfl) fun _ _ _ => rfl)) hg hm PySem.boot_len ha (by decide) (by decide) he hpl
  | list => exact pe_callTy (cl_one cl_lst (opF_one (fun _ _ => rfl) fun _ _ _ => rfl)) hg hm PyProof.Rows.boot_list ha (by decide) (by decide) he hpl
  | tuple => exact pe_callTy (cl_one cl_tup (opF_one (fun _ _ => rfl) fun _ _ _ => rfl)) hg hm PyProof.Rows.boot_tuple ha (by decide) (by decide) he hpl
  | sum => exact pe_callB (cl_one (cl_sum hc) (opF_one (fun _ _ => rfl) fun _ _ _ => rfl)) hg hm PyProof.Rows.boot_sum ha (by decide) (by decide) he hpl
  | int => exact pe_callTy (cl_one cl_int (opF_one (fun _ _ => rfl) fun _ _ _ => rfl)) hg hm PyProof.Rows.boot_int ha (by decide) (by decide) he hpl
  | str => exact pe_callTy (cl_one cl_str (opF_one (fun _ _ => rfl) fun _ _ _ => rfl)) hg hm PyProof.Rows.boot_str ha (by decide) (by decide) he hpl
  | all => exact pe_callB (cl_one (cl_all hc) (opF_one (fun _ _ => rfl) fun _ _ _ => rfl)) hg hm PyProof.Rows.boot_all ha (by decide) (by decide) he hpl
  | any => exact pe_callB (cl_one (cl_any hc) (opF_one (fun _ _ => rfl) fun _ _ _ => rfl)) hg hm PyProof.Rows.boot_any ha (by decide) (by decide) he hpl
  | min => exact pe_callB (cl_two (cl_min hc) (opF_two (fun _ _ => rfl) fun _ _ _ => rfl)) hg hm PyProof.Rows.boot_min ha (by decide) (by decide) he hpl
  | max => exact pe_callB (cl_two (cl_max hc) (opF_two (fun _ _ => rfl) fun _ _ _ => rfl)) hg hm PyProof.Rows.boot_max ha (by decide) (by decide) he hpl
  | repr => exact absurd hf Bool.false_ne_true
def rMa (X : Cx) (m : Mt) : V → List V → Hp → VK → Prop := fun x vs H Q => ∃ (E : XK) (A : List Addr) (S : Sto) (o : D) (ds : List D), Sim X.K X.mg A S H ∧ Rep X.K A H o x ∧ Reps X.K A H ds vs ∧ PostG X.K X.mg (relD X.K) E A H (opM m o ds S) Q
theorem ma_one {X : Cx} {id : String} {m : Mt} {g : D → D → Sto → R D} (h : MtR X id (rM1 X g)) (h0 : ∀ o S, opM m o [] S = .no) (h1 : ∀ o d S, opM m o [d] S = g o d S) : MtR X id (rMa X m) := by
  intro pins s σ H x xs v us Q I rx rs q
  obtain ⟨E, A, S, o, ds, hs, ho, hd, hp⟩ := q
  rcases ds with _ | ⟨d, _ | ⟨d', ds⟩⟩
  · rw [h0] at hp; exact hp.elim
  · rw [h1] at hp
    obtain ⟨w, rfl, hw⟩ := reps1 hd
    exact h pins s σ H x _ v us Q I rx rs ⟨E, A, S, o, d, w, rfl, hs, ho, hw, hp⟩
  · exact (show False from hp).elim
theorem ma_pop {X : Cx} : MtR X "list.pop" (rMa X .pop0) := by
  intro pins s σ H x xs v us Q I rx rs q
  obtain ⟨E, A, S, o, ds, hs, ho, hd, hp⟩ := q
  rcases ds with _ | ⟨d, _ | ⟨d', ds⟩⟩
  · simp only [Reps] at hd
    exact ml_pop pins s σ H x xs v us Q I rx rs ⟨E, A, S, o, hd, hs, ho, hp⟩
  · exact (show False from hp).elim
  · exact (show False from hp).elim
def mtT : Mt → String
  | .join => "str" | .split => "str" | _ => "list"
def mtId : Mt → String
  | .append => "list.append" | .pop0 => "list.pop" | .popA => "list.pop" | .join => "str.join" | .split => "str.split" | _ => ""
theorem ma_all {X : Cx} {m : Mt} (h : mtOk m = true) : MtR X (mtId m) (rMa X m) ∧ PlainAttrs (mtT m) ∧ Slot (mtT m) (mtN m : Str) (mtId m) ∧ typeOf (.builtin (mtId m)) = pure (.type "method_descriptor") := by
  cases m <;> first
    | exact absurd h Bool.false_ne_true
    | exact ⟨ma_one ml_app (fun _ _ => rfl) (fun _ _ _ => rfl), PySem.F.plainAttrs_list, PySem.F.slot_list_append, PySem.F.type_list_append⟩
    | exact ⟨ma_pop, PySem.F.plainAttrs_list, PySem.F.slot_list_pop, PySem.F.type_list_pop⟩
    | exact ⟨ma_one ml_popA (fun _ _ => rfl) (fun _ _ _ => rfl), PySem.F.plainAttrs_list, PySem.F.slot_list_pop, PySem.F.type_list_pop⟩
    | exact ⟨ma_one ml_join (fun _ _ => rfl) (fun _ _ _ => rfl), PySem.F.plainAttrs_str, F.slot_str_join, F.type_str_join⟩
    | exact ⟨ma_one ml_split (fun _ _ => rfl) (fun _ _ _ => rfl), PySem.F.plainAttrs_str, F.slot_str_split, F.type_str_split⟩
theorem rcv_ty {K : PySem.W.Frag} {mg : Str → Option Value} {A : List Addr} {H : Hp} {S : Sto} {m : Mt} {o : D} {v : V} (s : Sim K mg A S H) (r : Rep K A H o v) (h : rcv m o S = true) : tyV K (mtT m) v H := by
  have l : (lst? S o).isSome = true → tyV K "list" v H := fun h => by
    obtain ⟨⟨n, ds⟩, e⟩ := Option.isSome_iff_exists.mp h
    obtain ⟨a, vs, e1, _, _, e2, _⟩ := s.lst? r e
    subst e1
    exact .inl ⟨rfl, vs, SqL.of e2⟩
  have t : isS o = true → tyV K "str" v H := fun h => by
    cases o <;> first | exact absurd h Bool.false_ne_true | (simp only [Rep] at r; subst r; rfl)
  cases m <;> first | exact absurd h Bool.false_ne_true | exact l h | exact t h
end Sw

set_option Elab.async false
set_option linter.all false
set_option maxRecDepth 100000
set_option maxHeartbeats 1000000
/-! Sw, part I: an expression that fits comes to the language's end. -/
namespace Sw
open PySem PySem.Spec PyProof.Rows L2

section
variable {X : Cx} {W : WX} {cf : CF} {gl : GL}
theorem pw_of {op : PySem.BoolOp} {vs : List Expr} {pos : Pos} {t : TT} (h : PT X (.BoolOp op vs pos) t) : PW X (.BoolOp op vs pos) t := ⟨fun wh pins s σ H Q I q => h.run pins s σ H Q I q⟩
theorem rL.imp {m : Sl → Sto → R (List D)} {σ : L2.St} {H : Hp} {Q Q' : List V → Hp → Prop} (h : rL X W m σ H Q) (k : ∀ v H', Q v H' → Q' v H') : rL X W m σ H Q' := by
  obtain ⟨A, S, env, he, hs, hp⟩ := h
  exact ⟨A, S, env, he, hs, hp.imp k⟩
theorem go_chain {o o' : Cop} {a b c : E} {σ : L2.St} {H : Hp} {Q : VK} (h : rE X W (evE cf gl (.chn o o' a b c)) σ H Q) :
    tChain (rB X (opC o)) (rB X (opC o')) (rE X W (evE cf gl a)) (rE X W (evE cf gl b)) (rE X W (evE cf gl c)) σ H Q := by
  obtain ⟨A, S, env, he, hs, hp⟩ := h
  simp only [evE] at hp
  refine ⟨A, S, env, he, hs, hp.bind.imp fun v H1 q => ?_⟩
  obtain ⟨A1, S1, d, x1, s1, r1, p1⟩ := q
  refine ⟨A1, S1, env, he.mono x1, s1, p1.bind.imp fun w H2 q => ?_⟩
  obtain ⟨A2, S2, e, x2, s2, r2, p2⟩ := q
  refine ⟨_, A2, S2, d, e, s2, r1.mono x2, r2, p2.bind.imp fun z H3 q => ?_⟩
  obtain ⟨A3, S3, f, x3, s3, r3, p3⟩ := q
  cases f with
  | bl k =>
    simp only [Rep] at r3
    subst r3
    cases k with
    | false => exact ⟨false, rfl, iteF (p3 A3 H3 _ Ext.refl s3 (by simp only [relD, Rep]))⟩
    | true =>
      refine ⟨true, rfl, iteT ⟨A3, S3, env, he.mono ((x1.trans x2).trans x3), s3, p3.bind.imp fun z' H4 q => ?_⟩⟩
      obtain ⟨A4, S4, g, x4, s4, r4, p4⟩ := q
      exact ⟨_, A4, S4, e, g, s4, r2.mono (x3.trans x4), r4, p4⟩
  | _ => exact p3.elim
/-- a first part that is True or False, the rest by it -/
theorem go_bl {a : E} {f : Bool → Sl → Sto → R D} {σ : L2.St} {H : Hp} {Q : VK} {R' : Bool → Hp → Prop} (hR : ∀ k A1 S1 H1 env, EnvR X.K A1 H1 env σ → Sim X.K X.mg A1 S1 H1 → PostG X.K X.mg (relD X.K) (WE W σ) A1 H1 (f k env S1) Q → R' k H1)
    (h : rE X W (fun σ S => (evE cf gl a σ S).bind fun x S1 => match x with | .bl k => f k σ S1 | _ => .no) σ H Q) : rE X W (evE cf gl a) σ H fun x H1 => ∃ k, x = .bl k ∧ R' k H1 := by
  obtain ⟨A, S, env, he, hs, hp⟩ := h
  refine ⟨A, S, env, he, hs, hp.bind.imp fun v H1 q => ?_⟩
  obtain ⟨A1, S1, d, x1, s1, r1, p1⟩ := q
  cases d with
  | bl k =>
    simp only [Rep] at r1
    exact ⟨k, r1, hR k A1 S1 H1 env (he.mono x1) s1 p1⟩
  | _ => exact p1.elim
theorem go_bl' {a : E} {f : Bool → Sl → Sto → R D} {σ : L2.St} {H : Hp} {Q : VK} {R' : Bool → Hp → Prop} (hR : ∀ k A1 S1 H1 env, EnvR X.K A1 H1 env σ → Sim X.K X.mg A1 S1 H1 → PostG X.K X.mg (relD X.K) (WE W σ) A1 H1 (f k env S1) Q → R' k H1)
    (h : rE X W (fun σ S => (evE cf gl a σ S).bind fun x S1 => match x with | .bl k => f k σ S1 | _ => .no) σ H Q) : rT X W (evE cf gl a) σ H R' := by
  obtain ⟨A, S, env, he, hs, hp⟩ := h
  dsimp only at hp
  refine ⟨A, S, env, he, hs, ?_⟩
  cases q : evE cf gl a env S with
  | no => rw [q] at hp; exact hp.elim
  | er c fs S1 => rw [q] at hp; exact hp
  | ok d S1 =>
    rw [q] at hp
    cases d with
    | bl k =>
      intro A1 H1 b x1 s1 e
      have e : k = b := e
      subst e
      exact hR k A1 S1 H1 env (he.mono x1) s1 (PostG.later x1 hp)
    | _ => exact hp.elim
theorem go_blT {a : E} {f : Bool → Sl → Sto → R D} {σ : L2.St} {H : Hp} {Q R' : Bool → Hp → Prop} (hR : ∀ k A1 S1 H1 env, EnvR X.K A1 H1 env σ → Sim X.K X.mg A1 S1 H1 → PostG X.K X.mg relB (WE W σ) A1 H1 ((f k env S1).bind asBl) Q → R' k H1)
    (h : rT X W (fun σ S => (evE cf gl a σ S).bind fun x S1 => match x with | .bl k => f k σ S1 | _ => .no) σ H Q) : rT X W (evE cf gl a) σ H R' := by
  obtain ⟨A, S, env, he, hs, hp⟩ := h
  dsimp only at hp
  refine ⟨A, S, env, he, hs, ?_⟩
  cases q : evE cf gl a env S with
  | no => rw [q] at hp; exact hp.elim
  | er c fs S1 => rw [q] at hp; exact hp
  | ok d S1 =>
    rw [q] at hp
    cases d with
    | bl k =>
      intro A1 H1 b x1 s1 e
      have e : k = b := e
      subst e
      exact hR k A1 S1 H1 env (he.mono x1) s1 (PostG.later x1 hp)
    | _ => exact hp.elim
end
theorem ev_and {cf : CF} {gl : GL} (a b : E) : evE cf gl (.band a b) = fun σ S => (evE cf gl a σ S).bind fun x S1 => match x with | .bl k => (fun k σ S1 => if k = true then evE cf gl b σ S1 else .ok (.bl false) S1) k σ S1 | _ => .no := by
  funext σ S
  rw [evE]
  congr 1
  funext x S1
  cases x with
  | bl k => cases k <;> rfl
  | _ => rfl
theorem ev_or {cf : CF} {gl : GL} (a b : E) : evE cf gl (.bor a b) = fun σ S => (evE cf gl a σ S).bind fun x S1 => match x with | .bl k => (fun k σ S1 => if k = true then .ok (.bl true) S1 else evE cf gl b σ S1) k σ S1 | _ => .no := by
  funext σ S
  rw [evE]
  congr 1
  funext x S1
  cases x with
  | bl k => cases k <;> rfl
  | _ => rfl
theorem ev_not {cf : CF} {gl : GL} (a : E) : evE cf gl (.bnot a) = fun σ S => (evE cf gl a σ S).bind fun x S1 => match x with | .bl k => (fun k _ S1 => .ok (.bl (!k)) S1) k σ S1 | _ => .no := by
  funext σ S
  first
  | (rw [evE]; done)
  | (
    rw [evE]
    congr 1
    )
theorem ev_ite {cf : CF} {gl : GL} (c a b : E) : evE cf gl (.ite c a b) = fun σ S => (evE cf gl c σ S).bind fun x S1 => match x with | .bl k => (fun k σ S1 => if k = true then evE cf gl a σ S1 else evE cf gl b σ S1) k σ S1 | _ => .no := by
  funext σ S
  rw [evE]
  congr 1
  funext x S1
  cases x with
  | bl k => cases k <;> rfl
  | _ => rfl
theorem ty_boot {ty : String} (h : ty ∈ ["int", "bool", "str", "tuple", "list"]) : bootBuiltins (ty : Str) = some (.type ty) ∧ (ty : Str) ≠ "__name__" ∧ ((ty : Str) == ("__debug__" : Str)) = false := by
  simp only [List.mem_cons, List.not_mem_nil, or_false] at h
  rcases h with rfl | rfl | rfl | rfl | rfl <;> exact ⟨by decide +kernel, by decide, by decide⟩
theorem own_ok {X : Cx} {s : Shared} {H : Hp} {scope : Scope} {cl : List (Str × Addr)} {C : Addr} {fp : List Addr} : ∀ x, own scope x = true →
    Loc (X.blk s H scope (compEnvC scope cl C X.env) fp).env.scope x ∧ ((X.blk s H scope (compEnvC scope cl C X.env) fp).fn x = true ∨ (X.blk s H scope (compEnvC scope cl C X.env) fp).env.scope.names.lookup x = some .local) := by
  intro x h
  unfold own at h
  split at h
  · rename_i e
    have q : (X.blk s H scope (compEnvC scope cl C X.env) fp).env.scope.names.lookup x = some .local := lookup_relS_keep (sc := X.env.scope) (by decide) e
    exact ⟨.inl q, .inr q⟩
  · rename_i e
    have q : (X.blk s H scope (compEnvC scope cl C X.env) fp).env.scope.names.lookup x = some .cell := lookup_relS_keep (sc := X.env.scope) (by decide) e
    refine ⟨.inr q, .inl ?_⟩
    show (scope.names.lookup x == some NameKind.cell) = true
    rw [e]; rfl
  · cases h

theorem evL_len {cf : CF} {gl : GL} : ∀ {es : EL} {σ : Sl} {S S' : Sto} {ds : List D}, evL cf gl es σ S = .ok ds S' → ds.length = es.len
  | .nil, σ, S, S', ds, h => by simp only [evL] at h; cases h; rfl
  | .cons e r, σ, S, S', ds, h => by
    simp only [evL] at h
    cases q : evE cf gl e σ S with
    | no => rw [q] at h; cases h
    | er _ _ _ => rw [q] at h; cases h
    | ok x S1 =>
      rw [q] at h
      simp only [bind_ok] at h
      cases q2 : evL cf gl r σ S1 with
      | no => rw [q2] at h; cases h
      | er _ _ _ => rw [q2] at h; cases h
      | ok xs S2 =>
        rw [q2] at h
        simp only [bind_ok] at h
        cases h
        rw [List.length_cons, evL_len q2]; rfl
theorem ckL_len {T : Nm} {N : List Str} {sc : Scope} : ∀ {es : EL} {ps : List Expr}, ckL T N sc es ps = true → es.len = ps.length
  | .nil, [], _ => rfl
  | .nil, _ :: _, h => by simp [ckL] at h
  | .cons _ _, [], h => by simp [ckL] at h
  | .cons e r, p :: ps, h => by
    simp only [ckL, Bool.and_eq_true] at h
    rw [EL.len, ckL_len h.2, List.length_cons]
theorem ckL_star {T : Nm} {N : List Str} {sc : Scope} {env : Env} : ∀ {es : EL} {ps : List Expr}, ckL T N sc es ps = true → starEach ps env = ps.map fun p => (false, eval p env)
  | .nil, [], _ => rfl
  | .nil, _ :: _, h => by simp [ckL] at h
  | .cons _ _, [], h => by simp [ckL] at h
  | .cons e r, p :: ps, h => by
    simp only [ckL, Bool.and_eq_true] at h
    rw [star_of fun q pos z => by subst z; exact ck_star h.1, ckL_star h.2]; rfl
theorem ckL_tail {T : Nm} {N : List Str} {sc : Scope} : ∀ {es : EL} {p : Expr} {ps : List Expr}, ckL T N sc es (p :: ps) = true → ∃ r, ckL T N sc r ps = true
  | .nil, _, _, h => by simp [ckL] at h
  | .cons e r, p, ps, h => by simp only [ckL, Bool.and_eq_true] at h; exact ⟨r, h.2⟩
theorem ckI_set {T : Nm} {N : List Str} {sc : Scope} {it : I} {tg : Expr} {es : List Expr} {k : Nat} {pos : Pos} (h : ckI T N sc it tg (.Set es k pos) = true) : False := by
  cases it with
  | seq e => simp only [ckI] at h; exact ck_set h
  | _ => simp [ckI] at h
theorem ckI_rng {T : Nm} {N : List Str} {sc : Scope} {es : EL} {tg p : Expr} (h : ckI T N sc (.rng es) tg p = true) : ∃ y ps pos, p = .Call (.Name "range" y) ps [] pos ∧ glob sc "range" = true ∧ ("range" : Str) ∈ T.bl ∧ ckL T N sc es ps = true ∧ (ps.length = 1 ∨ ps.length = 2) := by
  cases p with
  | Call g ps ks pos =>
    cases g with
    | Name y p =>
      rcases ks with _ | ⟨k, ks⟩
      · simp only [ckI, Bool.and_eq_true, Bool.or_eq_true, decide_eq_true_eq] at h
        obtain ⟨⟨⟨⟨h1, h2⟩, h3⟩, h4⟩, h5⟩ := h
        subst h1
        exact ⟨p, ps, pos, rfl, h2, h3, h4, h5⟩
      · simp [ckI] at h
    | _ => simp [ckI] at h
  | _ => simp [ckI] at h
theorem ckI_enm {T : Nm} {N : List Str} {sc : Scope} {es : EL} {tg p : Expr} (h : ckI T N sc (.enm es) tg p = true) : ∃ y ps pos, p = .Call (.Name "enumerate" y) ps [] pos ∧ isTup tg = true ∧ glob sc "enumerate" = true ∧ ("enumerate" : Str) ∈ T.bl ∧ ckL T N sc es ps = true ∧ ps.length = 1 := by
  cases p with
  | Call g ps ks pos =>
    cases g with
    | Name y p =>
      rcases ks with _ | ⟨k, ks⟩
      · simp only [ckI, Bool.and_eq_true, Bool.or_eq_true, decide_eq_true_eq] at h
        obtain ⟨⟨⟨⟨⟨h0, h1⟩, h2⟩, h3⟩, h4⟩, h5⟩ := h
        subst h1
        exact ⟨p, ps, pos, rfl, h0, h2, h3, h4, h5⟩
      · simp [ckI] at h
    | _ => simp [ckI] at h
  | _ => simp [ckI] at h
theorem ckI_zip {T : Nm} {N : List Str} {sc : Scope} {es : EL} {tg p : Expr} (h : ckI T N sc (.zip es) tg p = true) : ∃ y ps pos, p = .Call (.Name "zip" y) ps [] pos ∧ isTup tg = true ∧ glob sc "zip" = true ∧ ("zip" : Str) ∈ T.bl ∧ ckL T N sc es ps = true ∧ (ps.length = 2 ∨ ps.length = 3) := by
  cases p with
  | Call g ps ks pos =>
    cases g with
    | Name y p =>
      rcases ks with _ | ⟨k, ks⟩
      · simp only [ckI, Bool.and_eq_true, Bool.or_eq_true, decide_eq_true_eq] at h
        obtain ⟨⟨⟨⟨⟨h0, h1⟩, h2⟩, h3⟩, h4⟩, h5⟩ := h
        subst h1
        exact ⟨p, ps, pos, rfl, h0, h2, h3, h4, h5⟩
      · simp [ckI] at h
    | _ => simp [ckI] at h
  | _ => simp [ckI] at h
theorem fits_of {i : Int} (h : fits62 i = true) : -(2 ^ 62) ≤ i ∧ i < 2 ^ 62 := by
  simp only [fits62, Bool.and_eq_true, decide_eq_true_eq] at h
  exact h
/-- arguments of a known number -/
theorem args_go {X : Cx} {W : WX} {cf : CF} {gl : GL} {es : EL} {α β : Type} {rel : List Addr → Hp → α → β → Prop} {A : List Addr} {S : Sto} {env : Sl} {σ : L2.St} {H : Hp} {f : List D → Sto → R α} {Q : β → Hp → Prop} {k : Nat}
    (hk : es.len = k) (he : EnvR X.K A H env σ) (hs : Sim X.K X.mg A S H) (hp : PostG X.K X.mg rel (WE W σ) A H ((evL cf gl es env S).bind f) Q) :
    rL X W (evL cf gl es) σ H fun vs H1 => ∃ A1 S1 ds, ds.length = k ∧ Ext X.K A H A1 H1 ∧ Sim X.K X.mg A1 S1 H1 ∧ Reps X.K A1 H1 ds vs ∧ PostG X.K X.mg rel (WE W σ) A1 H1 (f ds S1) Q := by
  refine ⟨A, S, env, he, hs, ?_⟩
  cases q : evL cf gl es env S with
  | no => rw [q] at hp; exact hp.elim
  | er c fs S1 => rw [q] at hp; exact hp
  | ok ds S1 =>
    rw [q] at hp
    intro A1 H1 vs x1 s1 r1
    exact ⟨A1, S1, ds, by rw [evL_len q]; exact hk, x1, s1, r1, PostG.later x1 hp⟩

mutual
theorem so_E {T : Nm} {n : Nat} {cf : CF} {gl : GL} : ∀ (e : E) {pe : Expr} {X : Cx} {W : WX}, GX T n cf gl X W → ckE T X.N X.env.scope e pe = true → PE X pe (rE X W (evE cf gl e)) ∧ (tst e = true → PT X pe (rT X W (evE cf gl e)))
  | .var i x, pe, X, W, G, h => by
    obtain ⟨pos, rfl, h1, h2, h3⟩ := ck_var h
    obtain ⟨d1, d2, _⟩ := dbg_of h3
    have p := so_var (W := W) (cf := cf) (gl := gl) (pos := pos) h1 (vis_of h2) d1 d2
    exact ⟨p, fun _ => pt_of p fun _ => rfl⟩
  | .cst d, pe, X, W, G, h => by
    obtain ⟨c, k, pos, rfl, h1⟩ := ck_cst h
    have p := so_cst (X := X) (W := W) (cf := cf) (gl := gl) (k := k) (pos := pos) h1
    exact ⟨p, fun _ => pt_of p fun _ => rfl⟩
  | .glb x, pe, X, W, G, h => by
    obtain ⟨pos, rfl, h1, h2⟩ := ck_glb h
    have p := so_glb (pos := pos) G (gl_of h1) (dbg_of h2).1
    exact ⟨p, fun _ => pt_of p fun _ => rfl⟩
  | .bin o a b, pe, X, W, G, h => by
    obtain ⟨pa, p, pb, pos, rfl, h1, h2, h3⟩ := ck_bin h
    have ev : evE cf gl (.bin o a b) = fun σ S => (evE cf gl a σ S).bind fun x S1 => (evE cf gl b σ S1).bind fun y S2 => opB o x y S2 := by funext σ S; rw [evE]
    have q : PE X (.BinOp pa p pb pos) (rE X W (evE cf gl (.bin o a b))) := PE.imp (pe_op (opr_b h1) (so_E a G h2).1 (so_E b G h3).1) fun σ H Q w => two rfl rfl (by rw [← ev]; exact w)
    exact ⟨q, fun _ => pt_of q fun _ => rfl⟩
  | .neg a, pe, X, W, G, h => by
    obtain ⟨pa, pos, rfl, h1⟩ := ck_neg h
    have q : PE X (.UnaryOp .USub pa pos) (rE X W (evE cf gl (.neg a))) := PE.imp (pe_un un_neg (so_E a G h1).1) fun σ H Q w => by
      obtain ⟨A, S, env, he, hs, hp⟩ := w
      simp only [evE] at hp
      refine ⟨A, S, env, he, hs, hp.bind.imp fun v H1 q => ?_⟩
      obtain ⟨A1, S1, d, x1, s1, r1, p1⟩ := q
      cases d with
      | int i =>
        simp only [Rep] at r1
        exact ⟨i, r1, p1 A1 H1 _ Ext.refl s1 (by simp only [relD, Rep])⟩
      | _ => exact p1.elim
    exact ⟨q, fun _ => pt_of q fun _ => rfl⟩
  | .cmp o a b, pe, X, W, G, h => by
    obtain ⟨pa, p, pb, pos, rfl, h1, h2, h3, h4⟩ := ck_cmp h
    have ev : evE cf gl (.cmp o a b) = fun σ S => (evE cf gl a σ S).bind fun x S1 => (evE cf gl b σ S1).bind fun y S2 => opC o x y S2 := by funext σ S; rw [evE]
    have ho := opr_c (X := X) G.room.units h1
    exact ⟨PE.imp (pe_cmpR ho (so_E a G h2).1 (so_E b G h3).1 h4) fun σ H Q w => two rfl rfl (by rw [← ev]; exact w),
      fun _ => PT.imp (pt_cmpR ho (so_E a G h2).1 (so_E b G h3).1 h4) fun σ H Q w => two (W := W) rfl rfl (by rw [← ev]; exact test_of (te := rE X W (evE cf gl (.cmp o a b))) w)⟩
  | .chn o o' a b c, pe, X, W, G, h => by
    obtain ⟨pa, p, p', pb, pc, pos, rfl, h1, h1', h2, h3, h4, h5⟩ := ck_chn h
    have ho := opr_c (X := X) G.room.units h1
    have ho' := opr_c (X := X) G.room.units h1'
    exact ⟨PE.imp (pe_chain ho ho' (so_E a G h2).1 (so_E b G h3).1 (so_E c G h4).1 h5) fun σ H Q w => go_chain w,
      fun _ => PT.imp (pt_chain ho ho' (so_E a G h2).1 (so_E b G h3).1 (so_E c G h4).1 h5) fun σ H Q w => go_chain (test_of (te := rE X W (evE cf gl (.chn o o' a b c))) w)⟩
  | .band a b, pe, X, W, G, h => by
    obtain ⟨p, q, r, pos, rfl, h1, h2⟩ := ck_band h
    have ia := so_E a G h1
    have ib := so_E b G h2
    rw [ev_and]
    refine ⟨PE.imp (pe_and ia.1 ib.1) fun σ H Q w => go_bl (fun k A1 S1 H1 env e1 s1 p1 => ?_) w, fun ht => ?_⟩
    · cases k with
      | false => exact iteF (p1 A1 H1 _ Ext.refl s1 (by simp only [relD, Rep]))
      | true => exact iteT ⟨A1, S1, env, e1, s1, p1⟩
    · simp only [tst, Bool.and_eq_true] at ht
      refine PT.imp (PW.pt (pw_and (ia.2 ht.1) (pw_of (ib.2 ht.2)))) fun σ H Q w => go_blT (fun k A1 S1 H1 env e1 s1 p1 => ?_) w
      cases k with
      | false => exact iteF (p1 A1 H1 _ Ext.refl s1 rfl)
      | true => exact iteT ⟨A1, S1, env, e1, s1, p1⟩
  | .bor a b, pe, X, W, G, h => by
    obtain ⟨p, q, r, pos, rfl, h1, h2⟩ := ck_bor h
    have ia := so_E a G h1
    have ib := so_E b G h2
    rw [ev_or]
    refine ⟨PE.imp (pe_or ia.1 ib.1) fun σ H Q w => go_bl (fun k A1 S1 H1 env e1 s1 p1 => ?_) w, fun ht => ?_⟩
    · cases k with
      | true => exact iteT (p1 A1 H1 _ Ext.refl s1 (by simp only [relD, Rep]))
      | false => exact iteF ⟨A1, S1, env, e1, s1, p1⟩
    · simp only [tst, Bool.and_eq_true] at ht
      refine PT.imp (PW.pt (pw_or (ia.2 ht.1) (pw_of (ib.2 ht.2)))) fun σ H Q w => go_blT (fun k A1 S1 H1 env e1 s1 p1 => ?_) w
      cases k with
      | true => exact iteT (p1 A1 H1 _ Ext.refl s1 rfl)
      | false => exact iteF ⟨A1, S1, env, e1, s1, p1⟩
  | .bnot a, pe, X, W, G, h => by
    obtain ⟨pa, pos, rfl, h1⟩ := ck_bnot h
    have ia := so_E a G h1
    rw [ev_not]
    refine ⟨PE.imp (pe_not ia.1) fun σ H Q w => go_bl (fun k A1 S1 H1 env e1 s1 p1 => ?_) w, fun ht => ?_⟩
    · exact p1 A1 H1 _ Ext.refl s1 (by simp only [relD, Rep])
    · simp only [tst] at ht
      refine PT.imp (pt_not (ia.2 ht)) fun σ H Q w => go_blT (fun k A1 S1 H1 env e1 s1 p1 => ?_) w
      exact p1 A1 H1 _ Ext.refl s1 rfl
  | .one a, pe, X, W, G, h => by
    obtain ⟨op, p, pos, rfl, h1⟩ := ck_one h
    have ia := so_E a G h1
    have ev : evE cf gl (.one a) = evE cf gl a := by funext σ S; rw [evE]
    rw [ev]
    refine ⟨pe_one ia.1, fun ht => ?_⟩
    simp only [tst] at ht
    cases op with
    | And => exact PW.pt (pw_and1 (ia.2 ht))
    | Or => exact PW.pt (pw_or1 (ia.2 ht))
  | .ite c a b, pe, X, W, G, h => by
    obtain ⟨pc, pa, pb, pos, rfl, h1, h2, h3, h4⟩ := ck_ite h
    have ic := so_E c G h1
    rw [ev_ite]
    refine ⟨PE.imp (pe_ifExp (ic.2 h4) (so_E a G h2).1 (so_E b G h3).1) fun σ H Q w => go_bl' (fun k A1 S1 H1 env e1 s1 p1 => ?_) w, fun ht => by simp [tst] at ht⟩
    cases k with
    | true => exact iteT ⟨A1, S1, env, e1, s1, p1⟩
    | false => exact iteF ⟨A1, S1, env, e1, s1, p1⟩
  | .tup es, pe, X, W, G, h => by
    obtain ⟨ps, k, pos, rfl, h1⟩ := ck_tup h
    have q : PE X (.Tuple ps k pos) (rE X W (evE cf gl (.tup es))) := PE.imp (pe_tup (so_L es G h1)) fun σ H Q w => by
      obtain ⟨A, S, env, he, hs, hp⟩ := w
      simp only [evE] at hp
      refine ⟨A, S, env, he, hs, hp.bind.imp fun vs H1 q => ?_⟩
      obtain ⟨A1, S1, ds, x1, s1, r1, p1⟩ := q
      split at p1
      · rename_i hl
        refine ⟨by rw [r1.length]; exact hl, fun p np => ?_⟩
        obtain ⟨n1, n2, n3⟩ := new_tup s1 np r1
        exact p1 _ _ _ n1 n2 n3
      · exact p1.elim
    exact ⟨q, fun _ => pt_of q fun _ => rfl⟩
  | .lst es, pe, X, W, G, h => by
    obtain ⟨ps, pos, rfl, h1⟩ := ck_lst h
    have q : PE X (.List ps pos) (rE X W (evE cf gl (.lst es))) := PE.imp (pe_lst (so_L es G h1)) fun σ H Q w => by
      obtain ⟨A, S, env, he, hs, hp⟩ := w
      simp only [evE] at hp
      refine ⟨A, S, env, he, hs, hp.bind.imp fun vs H1 q => ?_⟩
      obtain ⟨A1, S1, ds, x1, s1, r1, p1⟩ := q
      split at p1
      · rename_i hl
        refine ⟨by rw [r1.length]; exact hl, fun p np => ?_⟩
        obtain ⟨n1, n2, n3⟩ := new_lst s1 np r1
        exact p1 _ _ _ n1 n2 n3
      · exact p1.elim
    exact ⟨q, fun _ => pt_of q fun _ => rfl⟩
  | .ix a i, pe, X, W, G, h => by
    obtain ⟨pa, pi, pos, rfl, h1, h2, h3⟩ := ck_ix h
    have ev : evE cf gl (.ix a i) = fun σ S => (evE cf gl a σ S).bind fun x S1 => (evE cf gl i σ S1).bind fun y S2 => opI x y S2 := by funext σ S; rw [evE]
    have q : PE X (.Subscript pa pi pos) (rE X W (evE cf gl (.ix a i))) := PE.imp (pe_ix ixr (so_E a G h1).1 (so_E i G h2).1 (plainIx_of h3)) fun σ H Q w => two rfl rfl (by rw [← ev]; exact w)
    exact ⟨q, fun _ => pt_of q fun _ => rfl⟩
  | .slc a lo hi, pe, X, W, G, h => by
    obtain ⟨pa, plo, phi, pq, pos, rfl, h1, h2, h3⟩ := ck_slc h
    have q : PE X (.Subscript pa (.Slice plo phi none pq) pos) (rE X W (evE cf gl (.slc a lo hi))) := PE.imp (pe_slice slr (so_E a G h1).1 (so_O lo G h2) (so_O hi G h3)) fun σ H Q w => by
      obtain ⟨A, S, env, he, hs, hp⟩ := w
      simp only [evE] at hp
      refine ⟨A, S, env, he, hs, hp.bind.imp fun v H1 q => ?_⟩
      obtain ⟨A1, S1, d, x1, s1, r1, p1⟩ := q
      refine ⟨A1, S1, env, he.mono x1, s1, p1.bind.imp fun l H2 q => ?_⟩
      obtain ⟨A2, S2, l', x2, s2, r2, p2⟩ := q
      refine ⟨A2, S2, env, (he.mono x1).mono x2, s2, p2.bind.imp fun u H3 q => ?_⟩
      obtain ⟨A3, S3, u', x3, s3, r3, p3⟩ := q
      have r2 : l' = l := r2
      have r3 : u' = u := r3
      subst r2 r3
      exact ⟨_, A3, S3, d, s3, r1.mono (x2.trans x3), p3⟩
    exact ⟨q, fun _ => pt_of q fun _ => rfl⟩
  | .call f es, pe, X, W, G, h => by
    obtain ⟨p, p1, ps, pos, rfl, h1, h2, h3, h4⟩ := ck_call h
    obtain ⟨fps, hf⟩ := Option.isSome_iff_exists.mp h3
    obtain ⟨a, fd, g1, g2, g3, g4⟩ := G.defs f fps hf
    have ha := so_L es G h4
    have pl := ckL_plain (env := X.env) (pos := pos) h4
    have st : starEach (p1 :: ps) X.env = (false, eval p1 X.env) :: starEach ps X.env := star_of fun q pos' z => by
      subst z
      cases es with
      | nil => simp [ckL] at h4
      | cons e r => simp only [ckL, Bool.and_eq_true] at h4; exact ck_star h4.1
    have pl2 : (backTo pos (starEach ps X.env)).any (·.1) = false := by
      have := pl.1
      rw [st] at this
      exact this
    have q : PE X (.Call (.Name f p) (p1 :: ps) [] pos) (rE X W (evE cf gl (.call f es))) := PE.imp (pe_callS (E := WE W) g4 G.room (gl_of h1) g1 g2 g3 (fun σ => passAt G.tk σ) ha (dbg_of h2).1 st pl2) fun σ H Q w => by
      obtain ⟨A, S, env, he, hs, hp⟩ := w
      simp only [evE] at hp
      refine ⟨A, S, env, he, hs, ?_⟩
      cases q : evL cf gl es env S with
      | no => rw [q] at hp; exact hp.elim
      | er c fs S1 => rw [q] at hp; exact hp
      | ok ds S1 =>
        rw [q] at hp
        intro A1 H1 vs x1 s1 r1
        have hp' := PostG.later x1 hp
        simp only [bind_ok] at hp'
        by_cases hl : ds.length = fps.length
        · exact ⟨A1, S1, ds, s1, r1, hl, hp'⟩
        · rw [G.arity f fps hf ds S1 hl] at hp'; exact hp'.elim
    exact ⟨q, fun _ => pt_of q fun _ => rfl⟩
  | .blt f es, pe, X, W, G, h => by
    obtain ⟨p, p1, ps, pos, rfl, h1, h2, h3, h4⟩ := ck_blt h
    have pl := ckL_plain (env := X.env) (pos := pos) h3
    have st : starEach (p1 :: ps) X.env = (false, eval p1 X.env) :: starEach ps X.env := star_of fun q pos' z => by
      subst z
      cases es with
      | nil => simp [ckL] at h3
      | cons e r => simp only [ckL, Bool.and_eq_true] at h3; exact ck_star h3.1
    have pl2 : (backTo pos (starEach ps X.env)).any (·.1) = false := by
      have := pl.1
      rw [st] at this
      exact this
    have q : PE X (.Call (.Name (bfN f : Str) p) (p1 :: ps) [] pos) (rE X W (evE cf gl (.blt f es))) := PE.imp (blt_pe G.calm h4 (gl_of h1) (G.blt _ h2) (so_L es G h3) st pl2) fun σ H Q w => by
      obtain ⟨A, S, env, he, hs, hp⟩ := w
      simp only [evE] at hp
      refine ⟨A, S, env, he, hs, hp.bind.imp fun vs H1 q => ?_⟩
      obtain ⟨A1, S1, ds, x1, s1, r1, p1⟩ := q
      exact ⟨_, A1, S1, ds, s1, r1, p1⟩
    exact ⟨q, fun _ => pt_of q fun _ => rfl⟩
  | .isi a ty, pe, X, W, G, h => by
    obtain ⟨p, pa, q, pos, rfl, h1, h2, h3, h4, h5, h6⟩ := ck_isi h
    obtain ⟨b1, b2, b3⟩ := ty_boot h5
    have ia := so_E a G h6
    have st : starEach [pa, .Name (ty : Str) q] X.env = (false, eval pa X.env) :: starEach [.Name (ty : Str) q] X.env := star_of fun q pos' z => by subst z; exact ck_star h6
    have q : PE X (.Call (.Name "isinstance" p) [pa, .Name (ty : Str) q] [] pos) (rE X W (evE cf gl (.isi a ty))) :=
      PE.imp (pe_callB (cl_isi (ty := ty)) (gl_of h1) (G.blt _ h3) PyProof.Rows.boot_isinstance (pa_cons ia.1 (pa_cons (pe_bltn (v := .ty ty) (gl_of h2) (G.blt _ h4) b1 rfl b2 b3) pa_nil) st) (by decide) (by decide) st (by rfl)) fun σ H Q w => by
        obtain ⟨A, S, env, he, hs, hp⟩ := w
        simp only [evE] at hp
        refine ⟨A, S, env, he, hs, hp.bind.imp fun v H1 q => ?_⟩
        obtain ⟨A1, S1, d, x1, s1, r1, p1⟩ := q
        exact ⟨_, A1, S1, d, v, rfl, s1, r1, p1⟩
    exact ⟨q, fun _ => pt_of q fun _ => rfl⟩
  | .mth m o es, pe, X, W, G, h => by
    obtain ⟨po, ap, ps, pos, rfl, h1, h2, h3, h4, h5, h6⟩ := ck_mth h
    obtain ⟨m1, m2, m3, m4⟩ := ma_all (X := X) h5
    have pl := ckL_plain (env := X.env) (pos := pos) h4
    have q : PE X (.Call (.Attribute po (mtN m : Str) ap) ps [] pos) (rE X W (evE cf gl (.mth m o es))) := by
      cases ps with
      | nil =>
        refine PE.imp (pe_bm0 m2 m3 m4 m1 (so_E o G h3).1 (base_of h2) h1) fun σ H Q w => ?_
        have ee : es = .nil := by cases es with
          | nil => rfl
          | cons e r => simp [ckL] at h4
        subst ee
        obtain ⟨A, S, env, he, hs, hp⟩ := w
        simp only [evE] at hp
        refine ⟨A, S, env, he, hs, hp.bind.imp fun v H1 q => ?_⟩
        obtain ⟨A1, S1, d, x1, s1, r1, p1⟩ := q
        split at p1
        · rename_i hr
          simp only [evL, bind_ok] at p1
          exact ⟨rcv_ty s1 r1 hr, _, A1, S1, d, [], s1, r1, Reps.nil, p1⟩
        · exact p1.elim
      | cons p1 ps =>
        have st : starEach (p1 :: ps) X.env = (false, eval p1 X.env) :: starEach ps X.env := star_of fun q pos' z => by
          subst z
          cases es with
          | nil => simp [ckL] at h4
          | cons e r => simp only [ckL, Bool.and_eq_true] at h4; exact ck_star h4.1
        have pl2 : (backTo pos (starEach ps X.env)).any (·.1) = false := by
          have := pl.1
          rw [st] at this
          exact this
        refine PE.imp (pe_bm m2 m3 m4 m1 (so_E o G h3).1 (so_L es G h4) (base_of h2) ?_ h1 st pl2) fun σ H Q w => ?_
        · rw [pl.2]
          have : decide ((p1 :: ps).length + ([] : List Keyword).length + (if ([] : List Keyword).isEmpty then 0 else 1) < 30) = true := by
            simp only [List.isEmpty_nil, if_true, List.length_nil, decide_eq_true_eq]
            omega
          rw [this]; rfl
        · obtain ⟨A, S, env, he, hs, hp⟩ := w
          simp only [evE] at hp
          refine ⟨A, S, env, he, hs, hp.bind.imp fun v H1 q => ?_⟩
          obtain ⟨A1, S1, d, x1, s1, r1, p1⟩ := q
          split at p1
          · rename_i hr
            refine ⟨rcv_ty s1 r1 hr, A1, S1, env, he.mono x1, s1, p1.bind.imp fun vs H2 q => ?_⟩
            obtain ⟨A2, S2, ds, x2, s2, r2, p2⟩ := q
            exact ⟨_, A2, S2, d, ds, s2, r1.mono x2, r2, p2⟩
          · exact p1.elim
    exact ⟨q, fun _ => pt_of q fun _ => rfl⟩
  | .comp tg it cond elt, pe, X, W, G, h => by
    obtain ⟨p, pt, pit, ifs, scope, pos, rfl, h1, h2, h3, h4, h5⟩ := ck_comp h
    have q : PE X (.ListComp p [⟨pt, pit, ifs, 0⟩] scope pos) (rE X W (evE cf gl (.comp tg it cond elt))) := by
      have i1 := so_I it G h3
      refine PE.imp (pe_lc (own := tg) (g := gOf X.K tg) (tt := rTb X W0 (evC cf gl cond)) (te := rE X W0 (evE cf gl elt)) G.calm G.nd i1 (blkOk_by h1) (fun s H C cl fp => ?_) (fun s H C cl fp => ?_) (fun s H C cl fp => ?_) (fun x => ?_)) fun σ H Q w => ?_
      · exact pg_of (X := X.blk s H scope (compEnvC scope cl C X.env) fp) G.calm G.nd own_ok h2
      · exact so_C cond (G.blk s H scope (compEnvC scope cl C X.env) fp) h4
      · exact (so_E elt (G.blk s H scope (compEnvC scope cl C X.env) fp) h5).1
      · exact noset (fun es k pos' z => by subst z; exact ckI_set h3) X.env x
      · obtain ⟨A, S, env, he, hs, hp⟩ := w
        simp only [evE] at hp
        refine ⟨A, S, env, he, hs, ?_⟩
        cases q : evI cf gl it env S with
        | no => rw [q] at hp; exact hp.elim
        | er c fs S1 => rw [q] at hp; exact hp
        | ok pr S1 =>
          rw [q] at hp
          intro A1 H1 J x1 s1 r1
          have hp' := PostG.later x1 hp
          simp only [bind_ok] at hp'
          exact fun Dl hD => comp_go r1 (he.mono x1) s1 hp' Dl hD
    exact ⟨q, fun _ => pt_of q fun _ => rfl⟩
  | .fst es, pe, X, W, G, h => by
    obtain ⟨ps, pos, rfl, h1, h2⟩ := ck_fst h
    obtain ⟨ts, j, k⟩ := so_F es G h2
    have q : PE X (.JoinedStr ps pos) (rE X W (evE cf gl (.fst es))) := by
      rcases ps with _ | ⟨p1, _ | ⟨p2, ps⟩⟩
      · simp at h1
      · simp at h1
      · refine PE.imp (pe_joined j) fun σ H Q w => ?_
        obtain ⟨A, S, env, he, hs, hp⟩ := w
        simp only [evE] at hp
        exact k Str.empty σ H Q A S env he hs hp
    exact ⟨q, fun _ => pt_of q fun _ => rfl⟩
theorem so_L {T : Nm} {n : Nat} {cf : CF} {gl : GL} : ∀ (es : EL) {ps : List Expr} {X : Cx} {W : WX}, GX T n cf gl X W → ckL T X.N X.env.scope es ps = true → PA X ps (rL X W (evL cf gl es))
  | .nil, ps, X, W, G, h => by
    cases ps with
    | nil =>
      refine PA.imp pa_nil fun σ H Q w => ?_
      obtain ⟨A, S, env, he, hs, hp⟩ := w
      simp only [evL] at hp
      exact hp A H [] Ext.refl hs Reps.nil
    | cons p ps => simp [ckL] at h
  | .cons e r, ps, X, W, G, h => by
    cases ps with
    | nil => simp [ckL] at h
    | cons p ps =>
      simp only [ckL, Bool.and_eq_true] at h
      refine PA.imp (pa_cons (so_E e G h.1).1 (so_L r G h.2) (star_of fun q pos z => by subst z; exact ck_star h.1)) fun σ H Q w => ?_
      obtain ⟨A, S, env, he, hs, hp⟩ := w
      simp only [evL] at hp
      refine ⟨A, S, env, he, hs, hp.bind.imp fun v H1 q => ?_⟩
      obtain ⟨A1, S1, d, x1, s1, r1, p1⟩ := q
      refine ⟨A1, S1, env, he.mono x1, s1, p1.bind.imp fun vs H2 q => ?_⟩
      obtain ⟨A2, S2, ds, x2, s2, r2, p2⟩ := q
      exact p2 A2 H2 _ Ext.refl s2 (Reps.cons (r1.mono x2) r2)
theorem so_O {T : Nm} {n : Nat} {cf : CF} {gl : GL} : ∀ (e : EO) {p : Option Expr} {X : Cx} {W : WX}, GX T n cf gl X W → ckO T X.N X.env.scope e p = true → PO X p (rO X W (evO cf gl e))
  | .none, p, X, W, G, h => by
    cases p with
    | none =>
      refine PO.imp po_none fun σ H Q w => ?_
      obtain ⟨A, S, env, he, hs, hp⟩ := w
      simp only [evO] at hp
      exact hp A H none Ext.refl hs rfl
    | some p => simp [ckO] at h
  | .some e, p, X, W, G, h => by
    cases p with
    | none => simp [ckO] at h
    | some p =>
      simp only [ckO] at h
      refine PO.imp (po_some (so_E e G h).1) fun σ H Q w => ?_
      obtain ⟨A, S, env, he, hs, hp⟩ := w
      simp only [evO] at hp
      refine ⟨A, S, env, he, hs, hp.bind.imp fun v H1 q => ?_⟩
      obtain ⟨A1, S1, d, x1, s1, r1, p1⟩ := q
      cases d with
      | int i =>
        simp only [Rep] at r1
        exact ⟨i, r1, p1 A1 H1 _ Ext.refl s1 rfl⟩
      | _ => exact p1.elim
theorem so_C {T : Nm} {n : Nat} {cf : CF} {gl : GL} : ∀ (e : EO) {ps : List Expr} {X : Cx} {W : WX}, GX T n cf gl X W → ckC T X.N X.env.scope e ps = true → PTs X ps (rTb X W (evC cf gl e))
  | .none, ps, X, W, G, h => by
    cases ps with
    | nil =>
      refine PTs.imp pts_nil fun σ H Q w => ?_
      obtain ⟨A, S, env, he, hs, hp⟩ := w
      simp only [evC] at hp
      exact hp A H true Ext.refl hs rfl
    | cons p ps => simp [ckC] at h
  | .some e, ps, X, W, G, h => by
    rcases ps with _ | ⟨p, _ | ⟨p', ps⟩⟩
    · simp [ckC] at h
    · simp only [ckC, Bool.and_eq_true] at h
      refine PTs.imp (pts_one ((so_E e G h.1).2 h.2)) fun σ H Q w => ?_
      obtain ⟨A, S, env, he, hs, hp⟩ := w
      simp only [evC] at hp
      exact ⟨A, S, env, he, hs, hp⟩
    · simp [ckC] at h
theorem so_F {T : Nm} {n : Nat} {cf : CF} {gl : GL} : ∀ (es : EL) {ps : List Expr} {X : Cx} {W : WX}, GX T n cf gl X W → ckF T X.N X.env.scope es ps = true →
    ∃ ts, PJ X ps ts ∧ ∀ (acc : Str) (σ : L2.St) (H : Hp) (Q : VK) (A : List Addr) (S : Sto) (env : Sl), EnvR X.K A H env σ → Sim X.K X.mg A S H → PostG X.K X.mg (relD X.K) (WE W σ) A H (evF cf gl es env S acc) Q → tJs ts acc σ H fun out H1 => Q (.str out) H1
  | .nil, ps, X, W, G, h => by
    cases ps with
    | nil =>
      refine ⟨[], .nil, fun acc σ H Q A S env he hs hp => ?_⟩
      simp only [evF] at hp
      exact hp A H _ Ext.refl hs (by simp only [relD, Rep])
    | cons p ps => cases p <;> simp [ckF] at h
  | .cons e r, ps, X, W, G, h => by
    cases ps with
    | nil => simp [ckF] at h
    | cons p ps =>
      cases p with
      | FormattedValue q c sp pos =>
        cases sp with
        | some _ => simp [ckF] at h
        | none =>
          simp only [ckF, Bool.and_eq_true, decide_eq_true_eq] at h
          obtain ⟨⟨h0, h1⟩, h2⟩ := h
          subst h0
          obtain ⟨ts, j, k⟩ := so_F r G h2
          refine ⟨_, .cons (pe_fmt (so_E e G h1).1) j, fun acc σ H Q A S env he hs hp => ?_⟩
          simp only [evF] at hp
          refine ⟨A, S, env, he, hs, hp.bind.imp fun v H1 q => ?_⟩
          obtain ⟨A1, S1, d, x1, s1, r1, p1⟩ := q
          split at p1
          · rename_i y hy
            split at p1
            · rename_i hl
              cases d with
              | str z =>
                simp only [fmt] at hy
                split at hy
                · rename_i hz
                  cases hy
                  simp only [Rep] at r1
                  exact .inl ⟨_, r1, hz, _, rfl, hl, k _ σ H1 Q A1 S1 env (he.mono x1) s1 p1⟩
                · cases hy
              | int i =>
                simp only [fmt] at hy
                split at hy
                · rename_i hz
                  cases hy
                  simp only [Rep] at r1
                  exact .inr ⟨i, r1, hz, _, rfl, hl, k _ σ H1 Q A1 S1 env (he.mono x1) s1 p1⟩
                · cases hy
              | _ => simp [fmt] at hy
            · exact p1.elim
          · exact p1.elim
      | Constant c kk pos =>
        simp only [ckF, Bool.and_eq_true] at h
        obtain ⟨h1, h2⟩ := h
        obtain ⟨ts, j, k⟩ := so_F r G h2
        split at h1
        · rename_i x
          split at h1
          · rename_i y
            rw [decide_eq_true_eq] at h1
            subst h1
            refine ⟨_, .cons pe_str j, fun acc σ H Q A S env he hs hp => ?_⟩
            simp only [evF, evE, bind_ok, fmt] at hp
            split at hp
            · rename_i z hz
              split at hz
              · cases hz
                split at hp
                · rename_i hl
                  exact ⟨x, rfl, hl, k _ σ H Q A S env he hs hp⟩
                · exact hp.elim
              · cases hz
            · exact hp.elim
          · cases h1
        · cases h1
      | _ => simp [ckF] at h
theorem so_I {T : Nm} {n : Nat} {cf : CF} {gl : GL} : ∀ (it : I) {tg p : Expr} {X : Cx} {W : WX}, GX T n cf gl X W → ckI T X.N X.env.scope it tg p = true → PI X tg p (rI X W (evI cf gl it))
  | .seq e, tg, p, X, W, G, h => by
    simp only [ckI] at h
    refine PI.imp (pi_any (so_E e G h).1) fun σ H Q w => ?_
    obtain ⟨A, S, env, he, hs, hp⟩ := w
    simp only [evI] at hp
    refine ⟨A, S, env, he, hs, hp.bind.imp fun v H1 q => ?_⟩
    obtain ⟨A1, S1, d, x1, s1, r1, p1⟩ := q
    simp only [wlk] at p1
    split at p1
    · rename_i pr hw
      exact walk_any s1 r1 hw fun J hJ => p1 A1 H1 J Ext.refl s1 hJ
    · exact p1.elim
  | .rng es, tg, p, X, W, G, h => by
    obtain ⟨y, ps, pos, rfl, h1, h2, h3, h4⟩ := ckI_rng h
    have hl := ckL_len h3
    have st := ckL_star h3 (env := X.env)
    rcases ps with _ | ⟨p1, _ | ⟨p2, _ | ⟨p3, ps⟩⟩⟩
    · simp at h4
    · refine PI.imp (pi_range1 (gl_of h1) (G.blt _ h2) (so_L es G h3) st) fun σ H Q w => ?_
      obtain ⟨A, S, env, he, hs, hp⟩ := w
      simp only [evI] at hp
      refine (show rL X W (evL cf gl es) σ H _ from ?_)
      refine rL.imp (args_go hl he hs hp) fun vs H1 q => ?_
      obtain ⟨A1, S1, ds, l1, x1, s1, r1, p1⟩ := q
      rcases ds with _ | ⟨d, _ | ⟨d', ds⟩⟩ <;> try (simp at l1; done)
      obtain ⟨v, rfl, hv⟩ := reps1 r1
      cases d with
      | int j =>
        simp only [opR] at p1
        split at p1
        · rename_i hf
          obtain ⟨f1, f2⟩ := fits_of hf
          simp only [Rep] at hv
          exact ⟨j, by rw [hv], f1, f2, p1 A1 H1 _ Ext.refl s1 itr_rng⟩
        · exact p1.elim
      | _ => exact p1.elim
    · have st2 : starEach [p2] X.env = [(false, eval p2 X.env)] := by
        obtain ⟨r, hr⟩ := ckL_tail h3
        exact ckL_star hr
      refine PI.imp (pi_range2 (gl_of h1) (G.blt _ h2) (so_L es G h3) st st2) fun σ H Q w => ?_
      obtain ⟨A, S, env, he, hs, hp⟩ := w
      simp only [evI] at hp
      refine (show rL X W (evL cf gl es) σ H _ from ?_)
      refine rL.imp (args_go hl he hs hp) fun vs H1 q => ?_
      obtain ⟨A1, S1, ds, l1, x1, s1, r1, p1⟩ := q
      rcases ds with _ | ⟨d, _ | ⟨d', _ | ⟨d'', ds⟩⟩⟩ <;> try (simp at l1; done)
      obtain ⟨v, w, rfl, hv, hw⟩ := reps2 r1
      cases d with
      | int i =>
        cases d' with
        | int j =>
          simp only [opR] at p1
          split at p1
          · rename_i hf
            obtain ⟨f1, f2⟩ := fits_of hf.1
            obtain ⟨f3, f4⟩ := fits_of hf.2
            simp only [Rep] at hv hw
            exact ⟨i, j, by rw [hv, hw], ⟨f1, f2, f3, f4⟩, p1 A1 H1 _ Ext.refl s1 itr_rng⟩
          · exact p1.elim
        | _ => exact p1.elim
      | _ => exact p1.elim
    · simp at h4
  | .zip es, tg, p, X, W, G, h => by
    obtain ⟨y, ps, pos, rfl, h0, h1, h2, h3, h4⟩ := ckI_zip h
    have hl := ckL_len h3
    have st := ckL_star h3 (env := X.env)
    rcases ps with _ | ⟨p1, _ | ⟨p2, _ | ⟨p3, _ | ⟨p4, ps⟩⟩⟩⟩ <;> try (simp at h4; done)
    · have st2 : starEach [p2] X.env = [(false, eval p2 X.env)] := by
        obtain ⟨r, hr⟩ := ckL_tail h3
        exact ckL_star hr
      cases tg with
      | Tuple elts kk tpos =>
        refine PI.imp (RZ.pi_zipA (gl_of h1) (G.blt _ h2) (so_L es G h3) (by rw [st, st2]; rfl) (by rw [st2]; rfl)) fun σ H Q w => ?_
        obtain ⟨A, S, env, he, hs, hp⟩ := w
        simp only [evI] at hp
        refine (show rL X W (evL cf gl es) σ H _ from ?_)
        refine rL.imp (args_go hl he hs hp) fun vs H1 q => ?_
        obtain ⟨A1, S1, ds, l1, x1, s1, r1, p1⟩ := q
        rcases ds with _ | ⟨d, _ | ⟨d', _ | ⟨d'', ds⟩⟩⟩ <;> try (simp at l1; done)
        obtain ⟨v, w, rfl, hv, hw⟩ := reps2 r1
        simp only [opZ, opZ2] at p1
        split at p1
        · rename_i k xs c k' ys c' e1 e2
          split at p1
          · rename_i hk
            subst hk
            obtain ⟨t1, a, vs, rfl, ra, ca⟩ := seqs_later s1 hv e1
            obtain ⟨t2, b, ws, rfl, rb, cb⟩ := seqs_later s1 hw e2
            rcases ca with ⟨b1, b2, b3⟩ | ⟨b1, b2, b3⟩ <;> rcases cb with ⟨d1, d2, d3⟩ | ⟨d1, d2, d3⟩
            · subst b2 d2
              exact ⟨a, b, vs, ws, rfl, .inr ⟨b3, d3, p1 A1 H1 _ Ext.refl s1 (itr_zipT b3 d3 ra rb)⟩⟩
            · rw [b1] at d1; cases d1
            · rw [b1] at d1; cases d1
            · exact ⟨a, b, vs, ws, rfl, .inl ⟨b2, d2, p1 A1 H1 _ Ext.refl s1 (itr_zipL b3 d3)⟩⟩
          · exact p1.elim
        · exact p1.elim
      | _ => exact absurd h0 Bool.false_ne_true

    · have st2 : starEach [p2, p3] X.env = [(false, eval p2 X.env), (false, eval p3 X.env)] := by
        obtain ⟨r, hr⟩ := ckL_tail h3
        exact ckL_star hr
      cases tg with
      | Tuple elts kk tpos =>
        refine PI.imp (pi_zip3 (gl_of h1) (G.blt _ h2) (so_L es G h3) (by rw [st, st2]; rfl) (by rw [st2]; rfl)) fun σ H Q w => ?_
        obtain ⟨A, S, env, he, hs, hp⟩ := w
        simp only [evI] at hp
        refine (show rL X W (evL cf gl es) σ H _ from ?_)
        refine rL.imp (args_go hl he hs hp) fun vs H1 q => ?_
        obtain ⟨A1, S1, ds, l1, x1, s1, r1, p1⟩ := q
        rcases ds with _ | ⟨d, _ | ⟨d', _ | ⟨d'', _ | ⟨d3, ds⟩⟩⟩⟩ <;> try (simp at l1; done)
        simp only [Reps] at r1
        obtain ⟨v1, q1, rfl, hv1, v2, q2, rfl, hv2, v3, q3, rfl, hv3, rfl⟩ := r1
        simp only [opZ, opZ3] at p1
        split at p1
        · simp only [Rep] at hv1 hv2 hv3
          obtain ⟨a, vs, rfl, a1, a2⟩ := hv1
          obtain ⟨b, ws, rfl, b1, b2⟩ := hv2
          obtain ⟨c, us, rfl, c1, c2⟩ := hv3
          exact ⟨a, b, c, vs, ws, us, rfl, a1, b1, c1, p1 A1 H1 _ Ext.refl s1 (itr_zip3 a1 b1 c1 a2 b2 c2)⟩
        · exact p1.elim
      | _ => exact absurd h0 Bool.false_ne_true
  | .enm es, tg, p, X, W, G, h => by
    obtain ⟨y, ps, pos, rfl, h0, h1, h2, h3, h4⟩ := ckI_enm h
    have hl := ckL_len h3
    have st := ckL_star h3 (env := X.env)
    rcases ps with _ | ⟨p1, _ | ⟨p2, ps⟩⟩ <;> try (simp at h4; done)
    cases tg with
    | Tuple elts kk tpos =>
      refine PI.imp (pi_enum (gl_of h1) (G.blt _ h2) (so_L es G h3) st) fun σ H Q w => ?_
      obtain ⟨A, S, env, he, hs, hp⟩ := w
      simp only [evI] at hp
      refine (show rL X W (evL cf gl es) σ H _ from ?_)
      refine rL.imp (args_go hl he hs hp) fun vs H1 q => ?_
      obtain ⟨A1, S1, ds, l1, x1, s1, r1, p1⟩ := q
      rcases ds with _ | ⟨d, _ | ⟨d', ds⟩⟩ <;> try (simp at l1; done)
      obtain ⟨v, rfl, hv⟩ := reps1 r1
      simp only [opN] at p1
      split at p1
      · rename_i xs c e1
        obtain ⟨t1, a, vs, rfl, ra, ca⟩ := seqs_later s1 hv e1
        rcases ca with ⟨b1, b2, b3⟩ | ⟨b1, b2, b3⟩
        · cases b1
        · exact ⟨a, vs, rfl, b2, p1 A1 H1 _ Ext.refl s1 (itr_enm b3)⟩
      · exact p1.elim
    | _ => exact absurd h0 Bool.false_ne_true
  | .rev e, tg, p, X, W, G, h => by simp [ckI] at h
end
end Sw

set_option Elab.async false
set_option linter.all false
set_option maxRecDepth 100000
set_option maxHeartbeats 1000000
/-! Sw, part J: statements. -/
namespace Sw
open PySem PySem.Spec PyProof.Rows L2

/-! ### what fits -/
def isComp : Expr → Bool
  | .ListComp .. => true | .SetComp .. => true | .DictComp .. => true | _ => false
def isTupE : Expr → Bool
  | .Tuple .. => true | _ => false
def isStar : Expr → Bool
  | .Starred .. => true | _ => false
def isLocal (sc : Scope) (x : Str) : Bool := match sc.names.lookup x with
  | some .local => true | _ => false
def swB (sc : Scope) (t : Str) (p : Pos) : Expr → Bool
  | .ListComp _ _ s q => isLocal sc t && (p.line == q.line) && !(s.names.any fun (n, k) => n == t && (k == .local || k == .cell))
  | _ => false
def parOk (sc : Scope) (x y : Str) (px py : Pos) (a b : Expr) : Bool :=
  isLocal sc x && isLocal sc y && (px.line == py.line) && !(decide (x = y)) && !isStar a && !isStar b && !([a, b].all (foldedForSure 8)) && !([a, b].all (constantsAlone 8))
def one? : List Expr → Option Expr
  | [t] => some t
  | _ => none
def ckA (T : Nm) (N : List Str) (sc : Scope) : Tg → Option Expr → Expr → Bool
  | .nam i x, some (.Name y _), _ => decide (x = y) && decide (N[i]? = some x) && own sc x
  | .sub o i, some (.Subscript po pi _), _ => ckE T N sc o po && ckE T N sc i pi && plainIx pi
  | .tup xs, some (.Tuple es _ _), p => ckTs N (fun x => own sc x) xs es && decide (2 ≤ xs.length) && !isTupE p
  | _, _, _ => false
theorem one_some {ts : List Expr} {t : Expr} (h : one? ts = some t) : ts = [t] := by
  unfold one? at h
  split at h
  · cases h; rfl
  · cases h
theorem ckA_nam {T : Nm} {N : List Str} {sc : Scope} {i : Nat} {x : Str} {t : Option Expr} {p : Expr} (h : ckA T N sc (.nam i x) t p = true) : ∃ q, t = some (.Name x q) ∧ N[i]? = some x ∧ own sc x = true := by
  unfold ckA at h
  split at h <;> rename_i e <;> first | (cases e; done) | skip
  · cases e
    simp only [Bool.and_eq_true, decide_eq_true_eq] at h
    exact ⟨_, by rw [h.1.1], h.1.2, h.2⟩
  · cases h
theorem ckA_sub {T : Nm} {N : List Str} {sc : Scope} {o i : E} {t : Option Expr} {p : Expr} (h : ckA T N sc (.sub o i) t p = true) : ∃ po pi q, t = some (.Subscript po pi q) ∧ ckE T N sc o po = true ∧ ckE T N sc i pi = true ∧ plainIx pi = true := by
  unfold ckA at h
  split at h <;> rename_i e <;> first | (cases e; done) | skip
  · cases e
    simp only [Bool.and_eq_true] at h
    exact ⟨_, _, _, rfl, h.1.1, h.1.2, h.2⟩
  · cases h
theorem ckA_tup {T : Nm} {N : List Str} {sc : Scope} {xs : List (Str × Nat)} {t : Option Expr} {p : Expr} (h : ckA T N sc (.tup xs) t p = true) : ∃ es k q, t = some (.Tuple es k q) ∧ ckTs N (fun x => own sc x) xs es = true ∧ 2 ≤ xs.length ∧ isTupE p = false := by
  unfold ckA at h
  split at h <;> rename_i e <;> first | (cases e; done) | skip
  · cases e
    simp only [Bool.and_eq_true, decide_eq_true_eq, Bool.not_eq_true'] at h
    exact ⟨_, _, _, rfl, h.1.1, h.1.2, h.2⟩
  · cases h
theorem as_sub {po pi : Expr} {q : Pos} {env : Env} (h : plainIx pi = true) : ∀ v, assign (.Subscript po pi q) env v = (do
      let ov ← holding [v] (eval po env)
      let iv ← holding [v, ov] (eval pi env)
      standAt q
      holding [v, ov, iv] (setItem ov iv v)
      release [v, ov, iv] []) := by
  intro v
  cases pi <;> first | rfl | exact absurd (show false = true from h) (by decide)
def names2? : List Expr → Option (Str × Pos × Str × Pos)
  | [.Name x px, .Name y py] => some (x, px, y, py)
  | _ => none
def two? : List Expr → Option (Str × Pos × Str × Pos)
  | [.Tuple es _ _] => names2? es
  | _ => none
def pair? : Expr → Option (Expr × Expr)
  | .Tuple [a, b] _ _ => some (a, b)
  | _ => none
theorem two_some {ts : List Expr} {x y : Str} {px py : Pos} (h : two? ts = some (x, px, y, py)) : ∃ kt pt, ts = [.Tuple [.Name x px, .Name y py] kt pt] := by
  unfold two? at h
  split at h
  · rename_i es kt pt
    unfold names2? at h
    split at h
    · cases h; exact ⟨kt, pt, rfl⟩
    · cases h
  · cases h
theorem pair_some {v a b : Expr} (h : pair? v = some (a, b)) : ∃ k pt, v = .Tuple [a, b] k pt := by
  unfold pair? at h
  split at h
  · cases h; exact ⟨_, _, rfl⟩
  · cases h
mutual
def ckS (T : Nm) (N : List Str) (sc : Scope) : S → Stmt → Bool
  | .exp e, .Expr p _ => ckE T N sc e p && !isComp p
  | .asg t e, .Assign ts p _ => ckA T N sc t (one? ts) p && ckE T N sc e p
  | .par x y a b, .Assign ts v _ => match two? ts, pair? v with
    | some (x', px, y', py), some (pa, pb) => decide (x.1 = x') && decide (y.1 = y') && decide (N[x.2]? = some x.1) && decide (N[y.2]? = some y.1) && parOk sc x.1 y.1 px py pa pb && ckE T N sc a pa && ckE T N sc b pb
    | _, _ => false
  | .ret .none, .Return none _ => true
  | .ret (.some e), .Return (some p) _ => ckE T N sc e p
  | .ite c a b, .If p pa pb _ => ckE T N sc c p && tst c && ckB T N sc a pa && ckB T N sc b pb
  | .fr tg it body, .For pt pit pb [] _ => ckTg N (fun x => own sc x) tg pt && ckI T N sc it pt pit && ckB T N sc body pb
  | .whl c body, .While p pb [] _ => ckE T N sc c p && tst c && ckB T N sc body pb
  | .pass, .Pass _ => true
  | .dead, _ => true
  | _, _ => false
def ckB (T : Nm) (N : List Str) (sc : Scope) : SL → List Stmt → Bool
  | .nil, [] => true
  | .cons s r, p :: ps => ckS T N sc s p && ckB T N sc r ps
  | _, _ => false
end

/-! ### readings -/
def PostS (X : Cx) (W : WX) (D : Ends) (A : List Addr) (H : Hp) : RS → Prop
  | .nx env S => ∀ A' H' σ', Ext X.K A H A' H' → Sim X.K X.mg A' S H' → EnvR X.K A' H' env σ' → D.nx σ' H'
  | .rt d S => ∀ A' H' v, Ext X.K A H A' H' → Sim X.K X.mg A' S H' → Rep X.K A' H' d v → D.rt v H'
  | .er c fs env S => ∀ A' H' σ' cls d, Ext X.K A H A' H' → Sim X.K X.mg A' S H' → EnvR X.K A' H' env σ' → XRep X.K X.mg A' H' c fs cls d → W cls d σ' H'
  | .no => False
def rS (X : Cx) (W : WX) (m : Sl → Sto → RS) : TS := fun D σ H => ∃ A S env, EnvR X.K A H env σ ∧ Sim X.K X.mg A S H ∧ PostS X W D A H (m env S)
section
variable {X : Cx} {W : WX} {D : Ends} {A A' : List Addr} {H H' : Hp} {S : Sto} {env : Sl} {σ : L2.St} {α β : Type} {rel : List Addr → Hp → α → β → Prop}
theorem PostS.later {r : RS} (x : Ext X.K A H A' H') (h : PostS X W D A H r) : PostS X W D A' H' r := by
  cases r with
  | nx env S => exact fun A2 H2 σ' x2 s e => h A2 H2 σ' (x.trans x2) s e
  | rt d S => exact fun A2 H2 v x2 s e => h A2 H2 v (x.trans x2) s e
  | er c fs env S => exact fun A2 H2 σ' cls d x2 s e q => h A2 H2 σ' cls d (x.trans x2) s e q
  | no => exact h
/-- an expression ahead of the rest -/
theorem PostS.st {r : R α} {f : α → Sto → RS} (he : EnvR X.K A H env σ) (h : PostS X W D A H (r.st env f)) :
    PostG X.K X.mg rel (WE W σ) A H r (fun b H' => ∃ A' S' a, Ext X.K A H A' H' ∧ Sim X.K X.mg A' S' H' ∧ EnvR X.K A' H' env σ ∧ rel A' H' a b ∧ PostS X W D A' H' (f a S')) := by
  cases r with
  | ok a S => exact fun A2 H2 b x s q => ⟨A2, S, a, x, s, he.mono x, q, PostS.later x h⟩
  | er c fs S => exact fun A2 H2 cls d x s q => h A2 H2 σ cls d x s (he.mono x) q
  | no => exact h
/-- a statement ahead of the rest -/
theorem PostS.seq {r : RS} {f : Sl → Sto → RS} (h : PostS X W D A H (r.bind f)) :
    PostS X W { D with nx := fun σ' H' => ∃ A' S' env', Ext X.K A H A' H' ∧ Sim X.K X.mg A' S' H' ∧ EnvR X.K A' H' env' σ' ∧ PostS X W D A' H' (f env' S') } A H r := by
  cases r with
  | nx env S => exact fun A2 H2 σ' x s e => ⟨A2, S, env, x, s, e, PostS.later x h⟩
  | rt d S => exact h
  | er c fs env S => exact h
  | no => exact h
end
theorem PS.imp {X : Cx} {st : Stmt} {t t' : TS} (h : PS X st t) (k : ∀ D σ H, t' D σ H → t D σ H) : PS X st t' := ⟨fun pins s σ H D I q => h.run pins s σ H D I (k D σ H q)⟩
theorem PSs.imp {X : Cx} {st : List Stmt} {t t' : TS} (h : PSs X st t) (k : ∀ D σ H, t' D σ H → t D σ H) : PSs X st t' := ⟨fun pins s σ H D I q => h.run pins s σ H D I (k D σ H q)⟩
theorem PG.or {X : Cx} {e : Expr} {t t' : TG} (h : PG X e t) (h' : PG X e t') : PG X e (fun v σ H Q => t v σ H Q ∨ t' v σ H Q) :=
  ⟨fun pins s σ H v u Q I r q => q.elim (fun q => h.run pins s σ H v u Q I r q) fun q => h'.run pins s σ H v u Q I r q⟩

structure GS (T : Nm) (n : Nat) (cf : CF) (gl : GL) (X : Cx) (W : WX) : Prop where
  gx : GX T n cf gl X W
  fn : ∀ x, X.fn x = true
  kind : X.env.scope.kind = .function

/-- o[i] = v -/
def rSet (X : Cx) (W : WX) (Dn : Ends) (σ : L2.St) (env : Sl) : V → V → V → Hp → (Hp → Prop) → Prop := fun o i v H Q =>
  ∃ (A : List Addr) (S : Sto) (x y d : D), Sim X.K X.mg A S H ∧ EnvR X.K A H env σ ∧ Rep X.K A H x o ∧ Rep X.K A H y i ∧ Rep X.K A H d v ∧ PostS X W Dn A H (opSet x y d S fun S4 => .nx env S4) ∧ (∀ H', Dn.nx σ H' → Q H')
theorem set_of {X : Cx} {W : WX} {Dn : Ends} {σ : L2.St} {env : Sl} {o i v : V} {H : Hp} {Q : Hp → Prop} (h : rSet X W Dn σ env o i v H Q) : rSetL o i v H Q := by
  obtain ⟨A, S, x, y, d, hs, he, rx, ry, rd, hp, hq⟩ := h
  simp only [opSet] at hp
  split at hp
  · rename_i n ds k e1
    split at hp
    · rename_i j hj
      obtain ⟨a, vs, e2, e3, e4, e5, q⟩ := hs.lst? rx e1
      simp only [Rep] at ry
      obtain ⟨n1, n2⟩ := hs.write (o := .lst (vs.set j v)) (o' := .lst (ds.set j d)) e3 (fun x => ⟨_, upd_same, (q.mono x).set j (rd.mono x)⟩)
      exact ⟨a, vs, k, j, e2, ry, e5, by rw [q.length]; exact hj, hq _ (hp A _ σ n2 n1 (he.mono n2))⟩
    · exact hp.elim
  · exact hp.elim

theorem nocomp {p : Expr} (h : isComp p = false) (t : Option Expr) (l : Nat) (env : Env) : swapsWith p t l env = pure false := by
  cases p <;> first | rfl | exact absurd (show true = false from h) (by decide)
theorem sw_nam {p : Expr} {t : Str} {q : Pos} {l : Nat} {X : Cx} (hk : X.env.scope.kind = .function) (hs : swB X.env.scope t q p = false) (h2 : ∀ a b c d, p ≠ .SetComp a b c d) (h3 : ∀ a b c d e, p ≠ .DictComp a b c d e) : swapsWith p (some (.Name t q)) l X.env = pure false := by
  cases p with
  | ListComp elt gs scope pos =>
    have hb : X.env.blockKind = .function := by unfold Env.blockKind; rw [hk]; rfl
    unfold swapsWith
    simp only [hb, Expr.pos]
    have e : ((X.env.kindOf t == some NameKind.local) && q.line == pos.line && !(scope.names.any fun (n, k) => n == t && (k == .local || k == .cell))) = false := by
      have hs : (isLocal X.env.scope t && (q.line == pos.line) && !(scope.names.any fun (n, k) => n == t && (k == .local || k == .cell))) = false := hs
      by_cases hl : isLocal X.env.scope t = true
      · have q1 : X.env.kindOf t = some .local := by
          unfold isLocal at hl
          split at hl
          · assumption
          · cases hl
        rw [hl] at hs
        rw [q1]
        exact hs
      · have q1 : (X.env.kindOf t == some NameKind.local) = false := by
          rw [beq_eq_false_iff_ne]
          intro z
          apply hl
          unfold isLocal
          rw [show X.env.scope.names.lookup t = some .local from z]
        rw [q1]; rfl
    show pure _ = pure _
    congr 1
  | SetComp a b c d => exact absurd rfl (h2 a b c d)
  | DictComp a b c d e => exact absurd rfl (h3 a b c d e)
  | _ => rfl
theorem ck_scomp {T : Nm} {N : List Str} {sc : Scope} {e : E} {a b c d} (h : ckE T N sc e (.SetComp a b c d) = true) : False := by
  cases e <;> simp [ckE] at h
theorem ck_dcomp {T : Nm} {N : List Str} {sc : Scope} {e : E} {a b c d f} (h : ckE T N sc e (.DictComp a b c d f) = true) : False := by
  cases e <;> simp [ckE] at h
theorem sw_sub {p o i : Expr} {q : Pos} {l : Nat} {env : Env} : swapsWithSole [.Subscript o i q] p l env = pure false := by
  cases p <;> rfl
theorem sw_tup {p : Expr} {es : List Expr} {k : Nat} {q : Pos} {l : Nat} {env : Env} : swapsWithSole [.Tuple es k q] p l env = pure false := by
  cases p <;> rfl
theorem ss_sub {p o i : Expr} {q : Pos} {env : Env} : swappedStores [.Subscript o i q] p env = pure none := by
  cases p <;> rfl
theorem ss_nam {p : Expr} {x : Str} {q : Pos} {env : Env} : swappedStores [.Name x q] p env = pure none := by
  cases p <;> rfl
theorem ss_tup {p : Expr} {es : List Expr} {k : Nat} {q : Pos} {env : Env} (h : isTupE p = false) : swappedStores [.Tuple es k q] p env = pure none := by
  cases p <;> first | rfl | exact absurd (show true = false from h) (by decide)
theorem loc_of {sc : Scope} {x : Str} (h : own sc x = true) : L2.Loc sc x := by
  unfold own at h
  unfold L2.Loc
  split at h <;> first | exact .inl (by assumption) | exact .inr (by assumption) | cases h
theorem isLocal_of {sc : Scope} {x : Str} (h : isLocal sc x = true) : sc.names.lookup x = some .local := by
  unfold isLocal at h
  split at h
  · assumption
  · cases h
theorem ss_par {X : Cx} {x y : Str} {px py pt pt2 : Pos} {kt k2 : Nat} {a b : Expr} (hk : X.env.scope.kind = .function) (h : parOk X.env.scope x y px py a b = true) :
    swappedStores [.Tuple [.Name x px, .Name y py] kt pt] (.Tuple [a, b] k2 pt2) X.env = pure (some [x, y]) := by
  have hb : X.env.blockKind = .function := by unfold Env.blockKind; rw [hk]; rfl
  unfold parOk at h
  simp only [Bool.and_eq_true, Bool.not_eq_true', decide_eq_false_iff_not] at h
  obtain ⟨⟨⟨⟨⟨⟨⟨h1, h2⟩, h3⟩, h4⟩, h5⟩, h6⟩, h7⟩, h8⟩ := h
  have k1 : X.env.kindOf x = some .local := isLocal_of h1
  have k2' : X.env.kindOf y = some .local := isLocal_of h2
  have h3' : px.line = py.line := by simpa using h3
  have s1 : ∀ e : Expr, isStar e = false → (∀ (p : Expr → Bool), (∀ v q, p (.Starred v q) = true) → (∀ e, (∀ v q, e ≠ .Starred v q) → p e = false) → p e = false) := by
    intro e he p hp1 hp2
    refine hp2 e fun v q z => ?_
    subst z
    exact absurd (show true = false from he) (by decide)
  have st : ([a, b].any fun | .Starred .. => true | _ => false) = false := by
    simp only [List.any_cons, List.any_nil, Bool.or_false, Bool.or_eq_false_iff]
    constructor
    · cases a <;> first | rfl | exact absurd (show true = false from h5) (by decide)
    · cases b <;> first | rfl | exact absurd (show true = false from h6) (by decide)
  unfold swappedStores
  simp only [List.length_cons, List.length_nil, hb, st, h7, h8, List.head?_cons, Option.map_some, Option.getD_some, Expr.pos, List.filterMap_cons, List.filterMap_nil, k1, k2', h3', List.eraseDups_cons, List.eraseDups_nil]
  have ne : (y == x) = false := by rw [beq_eq_false_iff_ne]; exact fun z => h4 z.symm
  have ne2 : (x == y) = false := by rw [beq_eq_false_iff_ne]; exact h4
  simp [ne, ne2, h4]
  have e3 : [x, y].eraseDups = [x, y] := by simp [List.eraseDups_cons, ne, ne2]
  refine (if_neg ?_).trans (by rw [e3]; rfl)
  intro hh
  rcases hh with hh | hh
  · cases a <;> first | (cases hh; done) | exact absurd (show true = false from h5) (by decide)
  · cases b <;> first | (cases hh; done) | exact absurd (show true = false from h6) (by decide)

theorem nx_eq (Dn : Ends) : { Dn with nx := Dn.nx } = Dn := rfl
theorem fold_len : ∀ (l : List ((Str × Nat) × D)) (σ : Sl), (l.foldl (fun σ p => σ.set p.1.2 (some p.2)) σ).length = σ.length
  | [], _ => rfl
  | p :: l, σ => by rw [List.foldl_cons, fold_len l, List.length_set]

theorem ckTs_len {N : List Str} {ok : Str → Bool} : ∀ {tg : List (Str × Nat)} {es : List Expr}, ckTs N ok tg es = true → es.length = tg.length
  | [], [], _ => rfl
  | [], _ :: _, h => by simp [ckTs] at h
  | _ :: _, [], h => by simp [ckTs] at h
  | (x, i) :: r, e :: es, h => by
    cases e with
    | Name y pos =>
      simp only [ckTs, Bool.and_eq_true] at h
      rw [List.length_cons, List.length_cons, ckTs_len h.2]
    | _ => simp [ckTs] at h
theorem ck_par {T : Nm} {N : List Str} {sc : Scope} {x y : Str × Nat} {a b : E} {st : Stmt} (h : ckS T N sc (.par x y a b) st = true) :
    ∃ px py kt pt pa pb k2 pt2 pos, st = .Assign [.Tuple [.Name x.1 px, .Name y.1 py] kt pt] (.Tuple [pa, pb] k2 pt2) pos ∧ N[x.2]? = some x.1 ∧ N[y.2]? = some y.1 ∧ parOk sc x.1 y.1 px py pa pb = true ∧ ckE T N sc a pa = true ∧ ckE T N sc b pb = true := by
  cases st with
  | Assign ts p pos =>
    simp only [ckS] at h
    split at h
    · rename_i x' px y' py pa pb e1 e2
      obtain ⟨kt, pt, rfl⟩ := two_some e1
      obtain ⟨k2, pt2, rfl⟩ := pair_some e2
      simp only [Bool.and_eq_true, decide_eq_true_eq] at h
      obtain ⟨⟨⟨⟨⟨⟨h1, h2⟩, h3⟩, h4⟩, h5⟩, h6⟩, h7⟩ := h
      subst h1 h2
      exact ⟨px, py, kt, pt, pa, pb, k2, pt2, pos, rfl, h3, h4, h5, h6, h7⟩
    · cases h
  | _ => simp [ckS] at h
theorem ck_asg {T : Nm} {N : List Str} {sc : Scope} {t : Tg} {e : E} {st : Stmt} (h : ckS T N sc (.asg t e) st = true) : ∃ ts p pos, st = .Assign ts p pos ∧ ckA T N sc t (one? ts) p = true ∧ ckE T N sc e p = true := by
  cases st with
  | Assign ts p pos => simp only [ckS, Bool.and_eq_true] at h; exact ⟨ts, p, pos, rfl, h.1, h.2⟩
  | _ => simp [ckS] at h
theorem ck_fr {T : Nm} {N : List Str} {sc : Scope} {tg : List (Str × Nat)} {it : I} {body : SL} {st : Stmt} (h : ckS T N sc (.fr tg it body) st = true) :
    ∃ pt pit pb pos, st = .For pt pit pb [] pos ∧ ckTg N (fun x => own sc x) tg pt = true ∧ ckI T N sc it pt pit = true ∧ ckB T N sc body pb = true := by
  cases st with
  | For pt pit pb oe pos =>
    cases oe with
    | nil => simp only [ckS, Bool.and_eq_true] at h; exact ⟨pt, pit, pb, pos, rfl, h.1.1, h.1.2, h.2⟩
    | cons _ _ => simp [ckS] at h
  | _ => simp [ckS] at h
/-- a for, turn by turn -/
theorem for_go {X : Cx} {W : WX} {Dn : Ends} {tg : List (Str × Nat)} {c : Srcs} {ds0 : List D} {J : It} {A1 : List Addr} {H1 : Hp} {S1 : Sto} {env : Sl} {σ : L2.St} {m : Sl → Sto → RS}
    (hJ : ItR X.K X.mg A1 H1 ds0 c J) (he : EnvR X.K A1 H1 env σ) (hs : Sim X.K X.mg A1 S1 H1)
    (hp : PostS X W Dn A1 H1 (forL (fun d σ S => match bindT tg d σ with | some σ1 => m σ1 S | none => .no) c ds0 env S1)) :
    ∃ Wn : Nat → Nat → L2.St → Hp → Prop, (∃ k, Wn 0 k σ H1) ∧ ∀ i k σ H, Wn i k σ H →
      (J.stop i H ∧ Dn.nx σ H) ∨ (J.go i H ∧ ∃ Nx : L2.St → Hp → Prop, (∀ σ' H', Nx σ' H' → ∃ k', k' < k ∧ Wn (i + 1) k' σ' H') ∧ ∀ x H', J.yld i H x H' → gOf X.K tg x σ H' fun σ2 H2 => rS X W m { Dn with nx := Nx, ct := Nx, bk := Dn.nx } σ2 H2) := by
  refine ⟨fun i k σ H => k = ds0.length - i ∧ i ≤ ds0.length ∧ ∃ (A : List Addr) (S : Sto) (env : Sl), Ext X.K A1 H1 A H ∧ Sim X.K X.mg A S H ∧ EnvR X.K A H env σ ∧
    PostS X W Dn A H (forL (fun d σ S => match bindT tg d σ with | some σ1 => m σ1 S | none => .no) c (ds0.drop i) env S),
    ⟨_, rfl, Nat.zero_le _, A1, S1, env, Ext.refl, hs, he, by rw [List.drop_zero]; exact hp⟩, ?_⟩
  rintro i k σ H ⟨rfl, hi, A, S, env, x, s, e, hq⟩
  by_cases hlt : i < ds0.length
  · rw [List.drop_eq_getElem_cons hlt] at hq
    simp only [forL] at hq
    split at hq
    · rename_i hst
      obtain ⟨g1, _⟩ := hJ i A S H x s hst
      obtain ⟨go, yl⟩ := g1 ds0[i] (List.getElem?_eq_getElem hlt)
      cases hb : bindT tg ds0[i] env with
      | none => rw [hb] at hq; exact hq.elim
      | some env1 =>
        rw [hb] at hq
        dsimp only at hq
        refine .inr ⟨go, fun σ' H' => ∃ k', k' < ds0.length - i ∧ (k' = ds0.length - (i + 1) ∧ i + 1 ≤ ds0.length ∧ ∃ (A : List Addr) (S : Sto) (env : Sl), Ext X.K A1 H1 A H' ∧ Sim X.K X.mg A S H' ∧ EnvR X.K A H' env σ' ∧
          PostS X W Dn A H' (forL (fun d σ S => match bindT tg d σ with | some σ1 => m σ1 S | none => .no) c (ds0.drop (i + 1)) env S)), fun σ' H' h => h, fun y H' hy => ?_⟩
        obtain ⟨x2, s2, r2⟩ := yl y H' hy
        refine gOf_go r2 (e.mono x2).x hb fun σ2 e2 _ => ⟨A, S, env1, e2, s2, ?_⟩
        have q := (PostS.later x2 hq).seq
        cases z : m env1 S with
        | nx env3 S3 =>
          rw [z] at q
          intro A3 H3 σ3 x3 s3 e3
          obtain ⟨A', S', env', x', s', e', p'⟩ := q A3 H3 σ3 x3 s3 e3
          exact ⟨_, by omega, rfl, hlt, A', S', env', (x.trans x2).trans x', s', e', p'⟩
        | rt d S1 => rw [z] at q; exact q
        | er c fs env1 S1 => rw [z] at q; exact q
        | no => rw [z] at q; exact q
    · exact hq.elim
  · have ei : i = ds0.length := by omega
    subst ei
    rw [List.drop_length] at hq
    simp only [forL] at hq
    split at hq
    · rename_i hst
      obtain ⟨_, g2⟩ := hJ _ A S H x s hst
      exact .inl ⟨g2 rfl, hq A H σ Ext.refl s e⟩
    · exact hq.elim
/-- a while, turn by turn -/
theorem while_go {X : Cx} {W : WX} {Dn : Ends} {A : List Addr} {H : Hp} {S : Sto} {env : Sl} {σ : L2.St} {c : Sl → Sto → R D} {m : Sl → Sto → RS} (he : EnvR X.K A H env σ) (hs : Sim X.K X.mg A S H)
    (hp : PostS X W Dn A H (whl c m env S)) : tWhile (rT X W c) (rS X W m) Dn σ H := by
  have hne : whl c m env S ≠ .no := fun z => by rw [z] at hp; exact hp
  obtain ⟨k, hk⟩ := whl_some hne
  refine ⟨fun k σ H => ∃ A S env r, EnvR X.K A H env σ ∧ Sim X.K X.mg A S H ∧ whlN c m k env S = some r ∧ PostS X W Dn A H r, ⟨k, A, S, env, _, he, hs, hk, hp⟩, ?_⟩
  rintro k σ H ⟨A, S, env, r, e, s, hw, q⟩
  cases k with
  | zero => simp [whlN] at hw
  | succ k =>
    simp only [whlN] at hw
    refine ⟨A, S, env, e, s, ?_⟩
    cases z : c env S with
    | no => rw [z] at hw; cases hw; exact q.elim
    | er x fs S1 => rw [z] at hw; cases hw; exact fun A2 H2 cls d x s w => q A2 H2 σ cls d x s (e.mono x) w
    | ok d S1 =>
      rw [z] at hw
      cases d with
      | bl b =>
        intro A1 H1 b' x1 s1 eb
        have eb : b = b' := eb
        subst eb
        cases b with
        | false =>
          simp only at hw
          cases hw
          exact iteF (q A1 H1 σ x1 s1 (e.mono x1))
        | true =>
          simp only at hw
          refine iteT ⟨fun σ' H' => ∃ A S env r, EnvR X.K A H' env σ' ∧ Sim X.K X.mg A S H' ∧ whlN c m k env S = some r ∧ PostS X W Dn A H' r, fun σ' H' h => ⟨k, Nat.lt_succ_self _, h⟩, A1, S1, env, e.mono x1, s1, ?_⟩
          cases y : m env S1 with
          | nx env2 S2 =>
            rw [y] at hw
            simp only at hw
            exact fun A2 H2 σ2 x2 s2 e2 => ⟨A2, S2, env2, r, e2, s2, hw, PostS.later (x1.trans x2) q⟩
          | rt d S2 => rw [y] at hw; cases hw; exact PostS.later x1 q
          | er c fs env2 S2 => rw [y] at hw; cases hw; exact PostS.later x1 q
          | no => rw [y] at hw; cases hw; exact q.elim
      | _ => simp only at hw; cases hw; exact q.elim
/-- a comprehension's reading from its end -/
theorem comp_tlc {X : Cx} {W : WX} {cf : CF} {gl : GL} {tg : List (Str × Nat)} {it : I} {cond : EO} {elt : E} {i : Nat} {Dn : Ends} {σ : L2.St} {H : Hp} (h : tAsg (rE X W (evE cf gl (.comp tg it cond elt))) (gName i) Dn σ H) :
    tAsg (tLc (rI X W (evI cf gl it)) (gOf X.K tg) (rTb X W0 (evC cf gl cond)) (rE X W0 (evE cf gl elt)) (tg.map (·.2))) (gName i) Dn σ H := by
  obtain ⟨A, S, env, he, hs, hp⟩ := h
  simp only [evE] at hp
  refine ⟨A, S, env, he, hs, ?_⟩
  cases q : evI cf gl it env S with
  | no => rw [q] at hp; exact hp.elim
  | er c fs S1 => rw [q] at hp; exact hp
  | ok pr S1 =>
    rw [q] at hp
    intro A1 H1 J x1 s1 r1
    have hp' := PostG.later x1 hp
    simp only [bind_ok] at hp'
    exact fun Dl hD => comp_go r1 (he.mono x1) s1 hp' Dl hD

mutual
theorem so_S {T : Nm} {n : Nat} {cf : CF} {gl : GL} : ∀ (s : S) {st : Stmt} {X : Cx} {W : WX}, GS T n cf gl X W → ckS T X.N X.env.scope s st = true → PS X st (rS X W (evS cf gl s))
  | .exp e, st, X, W, G, h => by
    cases st with
    | Expr p pos =>
      simp only [ckS, Bool.and_eq_true, Bool.not_eq_true'] at h
      refine PS.imp (ps_expr (so_E e G.gx h.1).1 (nocomp h.2 none _ _)) fun Dn σ H w => ?_
      obtain ⟨A, S, env, he, hs, hp⟩ := w
      simp only [evS] at hp
      refine ⟨A, S, env, he, hs, (hp.st he).imp fun v H1 q => ?_⟩
      obtain ⟨A1, S1, d, x1, s1, e1, r1, p1⟩ := q
      exact p1 A1 H1 σ Ext.refl s1 e1
    | _ => simp [ckS] at h
  | .asg t e, st, X, W, G, h => by
    obtain ⟨ts, p, pos, rfl, h0, h4⟩ := ck_asg h
    cases t with
    | nam i x =>
      obtain ⟨q, e1, h2, h3⟩ := ckA_nam h0
      have e1 := one_some e1
      subst e1
      have fin : ∀ Dn σ H, rS X W (evS cf gl (.asg (.nam i x) e)) Dn σ H → tAsg (rE X W (evE cf gl e)) (gName i) Dn σ H := fun Dn σ H w => by
        obtain ⟨A, S, env, he, hs, hp⟩ := w
        simp only [evS] at hp
        refine ⟨A, S, env, he, hs, (hp.st he).imp fun v H1 q => ?_⟩
        obtain ⟨A1, S1, d, x1, s1, e1, r1, p1⟩ := q
        exact p1 A1 H1 _ Ext.refl s1 (e1.set i r1)
      cases hw : swB X.env.scope x q p with
      | false => exact PS.imp (ps_set G.gx.nd h2 (loc_of h3) (so_E e G.gx h4).1 (sw_nam G.kind hw (fun a b c d z => by subst z; exact ck_scomp h4) (fun a b c d f z => by subst z; exact ck_dcomp h4)) (.inl (G.fn x))) fin
      | true =>
        cases p with
        | ListComp pe gs scope ppos =>
          have hw' : (isLocal X.env.scope x && (q.line == ppos.line) && !(scope.names.any fun (n, k) => n == x && (k == .local || k == .cell))) = true := hw
          simp only [Bool.and_eq_true, Bool.not_eq_true'] at hw'
          obtain ⟨⟨w1, w2⟩, w3⟩ := hw'
          have hl := isLocal_of w1
          cases e with
          | comp tg it cond elt =>
            obtain ⟨p, pt, pit, ifs, scope', pos', ee, k1, k2, k3, k4, k5⟩ := ck_comp h4
            cases ee
            have i1 := so_I it G.gx k3
            refine PS.imp (ps_setLc (i := i) (own := tg) (g := gOf X.K tg) (tt := rTb X W0 (evC cf gl cond)) (te := rE X W0 (evE cf gl elt)) G.gx.calm G.gx.nd h2 hl (sw_true G.kind hl w2 w3) i1 (blkOk_by k1) (fun s H C cl fp => ?_) (fun s H C cl fp => ?_) (fun s H C cl fp => ?_) (fun x => ?_)) fun Dn σ H w => ?_
            · exact pg_of (X := X.blk s H scope (compEnvC scope cl C X.env) fp) G.gx.calm G.gx.nd own_ok k2
            · exact so_C cond (G.gx.blk s H scope (compEnvC scope cl C X.env) fp) k4
            · exact (so_E elt (G.gx.blk s H scope (compEnvC scope cl C X.env) fp) k5).1
            · exact noset (fun es k pos' z => by subst z; exact ckI_set k3) X.env x
            · exact comp_tlc (fin Dn σ H w)
          | _ => simp [ckE] at h4
        | _ => exact absurd (show false = true from hw) Bool.false_ne_true
    | sub o i =>
      obtain ⟨po, pi, q, e1, h2, h3, h5⟩ := ckA_sub h0
      have e1 := one_some e1
      subst e1
      refine PS.imp (ps_asg (so_E e G.gx h4).1 (pg_sub (so_E o G.gx h2).1 (so_E i G.gx h3).1 set_list (as_sub h5)) sw_sub ss_sub rfl) fun Dn σ H w => ?_
      obtain ⟨A, S, env, he, hs, hp⟩ := w
      simp only [evS] at hp
      refine ⟨A, S, env, he, hs, (hp.st he).imp fun v H1 q => ?_⟩
      obtain ⟨A1, S1, d, x1, s1, e1, r1, p1⟩ := q
      refine ⟨A1, S1, env, e1, s1, (p1.st e1).imp fun v2 H2 q => ?_⟩
      obtain ⟨A2, S2, d2, x2, s2, e2, r2, p2⟩ := q
      refine ⟨A2, S2, env, e2, s2, (p2.st e2).imp fun v3 H3 q => ?_⟩
      obtain ⟨A3, S3, d3, x3, s3, e3, r3, p3⟩ := q
      exact set_of ⟨A3, S3, d2, d3, d, s3, e3, r2.mono x3, r3, r1.mono (x2.trans x3), p3, fun _ q => q⟩
    | tup xs =>
      obtain ⟨es, k, q, e1, h1, h2, h5⟩ := ckA_tup h0
      have e1 := one_some e1
      subst e1
      have pgs := pgs_of (X := X) G.gx.nd (fun x hx => ⟨loc_of hx, .inl (G.fn x)⟩) h1
      obtain ⟨a1, a2⟩ := each_of (env := X.env) h1
      have hlen : es.length = xs.length := ckTs_len h1
      refine PS.imp (ps_asg (so_E e G.gx h4).1 (PG.or (pg_tup G.gx.calm pgs a1 a2) (pg_lst G.gx.calm pgs a1 a2)) sw_tup (ss_tup h5) rfl) fun Dn σ H w => ?_
      obtain ⟨A, S, env, he, hs, hp⟩ := w
      simp only [evS] at hp
      refine ⟨A, S, env, he, hs, (hp.st he).imp fun v H1 q => ?_⟩
      obtain ⟨A1, S1, d, x1, s1, e1, r1, p1⟩ := q
      split at p1
      · rename_i env' hb
        simp only [bindU] at hb
        split at hb
        · rename_i ds hi
          split at hb
          · rename_i hl
            cases hb
            obtain ⟨a, vs, e2, e3, r3⟩ := s1.items r1 hi
            have go := gNs_go (Q := Dn.nx) r3 hl e1.x fun σ' h5 _ => p1 A1 H1 σ' Ext.refl s1 h5
            rcases e3 with e3 | e3
            · exact .inr ⟨a, vs, e2, e3, by rw [r3.length, hl, hlen], go⟩
            · exact .inl ⟨a, vs, e2, e3, by rw [r3.length, hl, hlen], go⟩
          · cases hb
        · cases hb
      · exact p1.elim
  | .par x y a b, st, X, W, G, h => by
    obtain ⟨px, py, kt, pt, pa, pb, k2, pt2, pos, rfl, h1, h2, h3, h4, h5⟩ := ck_par h
    have hh := h3
    unfold parOk at hh
    simp only [Bool.and_eq_true, Bool.not_eq_true', decide_eq_false_iff_not] at hh
    obtain ⟨⟨⟨⟨⟨⟨⟨l1, l2⟩, _⟩, ne⟩, _⟩, _⟩, _⟩, _⟩ := hh
    have hij : x.2 ≠ y.2 := fun z => ne (by rw [z] at h1; exact Option.some.inj (h1.symm.trans h2))
    refine PS.imp (ps_par G.gx.calm G.gx.nd h1 h2 hij (isLocal_of l1) (isLocal_of l2) (so_L (.cons a (.cons b .nil)) G.gx (by simp only [ckL, h4, h5, Bool.and_self])) (ss_par G.kind h3) sw_tup) fun Dn σ H w => ?_
    obtain ⟨A, S, env, he, hs, hp⟩ := w
    simp only [evS] at hp
    refine ⟨A, S, env, he, hs, ?_⟩
    simp only [evL]
    cases q : evE cf gl a env S with
    | no => rw [q] at hp; exact hp.elim
    | er c fs S1 => rw [q] at hp; exact fun A2 H2 cls d x s q => hp A2 H2 σ cls d x s (he.mono x) q
    | ok d S1 =>
      rw [q] at hp
      simp only [bind_ok]
      have hp : PostS X W Dn A H ((evE cf gl b env S1).st env fun e S2 => .nx ((env.set x.2 (some d)).set y.2 (some e)) S2) := hp
      cases q2 : evE cf gl b env S1 with
      | no => rw [q2] at hp; exact hp.elim
      | er c fs S1 => rw [q2] at hp; exact fun A2 H2 cls d x s q => hp A2 H2 σ cls d x s (he.mono x) q
      | ok e S2 =>
        rw [q2] at hp
        simp only [bind_ok]
        intro A2 H2 vs x2 s2 r2
        obtain ⟨v, w, rfl, rv, rw'⟩ := reps2 r2
        exact ⟨v, w, rfl, hp A2 H2 _ x2 s2 (((he.mono x2).set x.2 rv).set y.2 rw')⟩
  | .ret .none, st, X, W, G, h => by
    cases st with
    | Return v pos =>
      cases v with
      | none =>
        refine PS.imp ps_retN fun Dn σ H w => ?_
        obtain ⟨A, S, env, he, hs, hp⟩ := w
        simp only [evS] at hp
        exact hp A H .non Ext.refl hs (by simp only [Rep])
      | some p => simp [ckS] at h
    | _ => simp [ckS] at h
  | .ret (.some e), st, X, W, G, h => by
    cases st with
    | Return v pos =>
      cases v with
      | none => simp [ckS] at h
      | some p =>
        simp only [ckS] at h
        refine PS.imp (ps_ret (so_E e G.gx h).1) fun Dn σ H w => ?_
        obtain ⟨A, S, env, he, hs, hp⟩ := w
        simp only [evS] at hp
        refine ⟨A, S, env, he, hs, (hp.st he).imp fun v H1 q => ?_⟩
        obtain ⟨A1, S1, d, x1, s1, e1, r1, p1⟩ := q
        exact p1 A1 H1 v Ext.refl s1 r1
    | _ => simp [ckS] at h
  | .ite c a b, st, X, W, G, h => by
    cases st with
    | If p pa pb pos =>
      simp only [ckS, Bool.and_eq_true] at h
      obtain ⟨⟨⟨h1, h2⟩, h3⟩, h4⟩ := h
      refine PS.imp (ps_if ((so_E c G.gx h1).2 h2) (so_B a G h3) (so_B b G h4)) fun Dn σ H w => ?_
      obtain ⟨A, S, env, he, hs, hp⟩ := w
      simp only [evS] at hp
      refine ⟨A, S, env, he, hs, ?_⟩
      cases q : evE cf gl c env S with
      | no => rw [q] at hp; exact hp.elim
      | er c fs S1 => rw [q] at hp; exact fun A2 H2 cls d x s q => hp A2 H2 σ cls d x s (he.mono x) q
      | ok d S1 =>
        rw [q] at hp
        cases d with
        | bl k =>
          intro A1 H1 b' x1 s1 e
          have e : k = b' := e
          subst e
          cases k with
          | true => exact iteT ⟨A1, S1, env, he.mono x1, s1, PostS.later x1 hp⟩
          | false => exact iteF ⟨A1, S1, env, he.mono x1, s1, PostS.later x1 hp⟩
        | _ => exact hp.elim
    | _ => simp [ckS] at h
  | .fr tg it body, st, X, W, G, h => by
    obtain ⟨pt, pit, pb, pos, rfl, h1, h2, h3⟩ := ck_fr h
    refine PS.imp (ps_for G.gx.pass G.gx.calm (so_I it G.gx h2) (pg_of (X := X) G.gx.calm G.gx.nd (fun x hx => ⟨loc_of hx, .inl (G.fn x)⟩) h1) (so_B body G h3) (noset (fun es k pos' z => by subst z; exact ckI_set h2) X.env)) fun Dn σ H w => ?_
    obtain ⟨A, S, env, he, hs, hp⟩ := w
    simp only [evS] at hp
    refine ⟨A, S, env, he, hs, ?_⟩
    cases q : evI cf gl it env S with
    | no => rw [q] at hp; exact hp.elim
    | er c fs S1 => rw [q] at hp; exact fun A2 H2 cls d x s q => hp A2 H2 σ cls d x s (he.mono x) q
    | ok pr S1 =>
      rw [q] at hp
      intro A1 H1 J x1 s1 r1
      exact for_go r1 (he.mono x1) s1 (PostS.later x1 hp)
  | .whl c body, st, X, W, G, h => by
    cases st with
    | While p pb oe pos =>
      cases oe with
      | nil =>
        simp only [ckS, Bool.and_eq_true] at h
        obtain ⟨⟨h1, h2⟩, h3⟩ := h
        refine PS.imp (ps_while G.gx.pass ((so_E c G.gx h1).2 h2) (so_B body G h3)) fun Dn σ H w => ?_
        obtain ⟨A, S, env, he, hs, hp⟩ := w
        simp only [evS] at hp
        exact while_go he hs hp
      | cons _ _ => simp [ckS] at h
    | _ => simp [ckS] at h
  | .dead, st, X, W, G, h => by
    refine ⟨fun pins s σ H Dn I w => ?_⟩
    obtain ⟨A, S, env, he, hs, hp⟩ := w
    simp only [evS] at hp
    exact hp.elim
  | .pass, st, X, W, G, h => by
    cases st with
    | Pass pos =>
      refine PS.imp ps_pass fun Dn σ H w => ?_
      obtain ⟨A, S, env, he, hs, hp⟩ := w
      simp only [evS] at hp
      exact hp A H σ Ext.refl hs he
    | _ => simp [ckS] at h
theorem so_B {T : Nm} {n : Nat} {cf : CF} {gl : GL} : ∀ (s : SL) {st : List Stmt} {X : Cx} {W : WX}, GS T n cf gl X W → ckB T X.N X.env.scope s st = true → PSs X st (rS X W (evB cf gl s))
  | .nil, st, X, W, G, h => by
    cases st with
    | nil =>
      refine PSs.imp pss_nil fun Dn σ H w => ?_
      obtain ⟨A, S, env, he, hs, hp⟩ := w
      simp only [evB] at hp
      exact hp A H σ Ext.refl hs he
    | cons p ps => simp [ckB] at h
  | .cons s r, st, X, W, G, h => by
    cases st with
    | nil => simp [ckB] at h
    | cons p ps =>
      simp only [ckB, Bool.and_eq_true] at h
      refine PSs.imp (pss_cons (so_S s G h.1) (so_B r G h.2)) fun Dn σ H w => ?_
      obtain ⟨A, S, env, he, hs, hp⟩ := w
      simp only [evB] at hp
      refine ⟨A, S, env, he, hs, ?_⟩
      have q := hp.seq
      cases z : evS cf gl s env S with
      | nx env1 S1 =>
        rw [z] at q
        intro A2 H2 σ2 x2 s2 e2
        obtain ⟨A', S', env', _, s', e', p'⟩ := q A2 H2 σ2 x2 s2 e2
        exact ⟨A', S', env', e', s', p'⟩
      | rt d S1 => rw [z] at q; exact q
      | er c fs env1 S1 => rw [z] at q; exact q
      | no => rw [z] at q; exact q
end
end Sw

set_option Elab.async false
set_option linter.all false
set_option maxRecDepth 100000
set_option maxHeartbeats 1000000
/-! Sw, part K: defs; a law's end. -/
namespace Sw
open PySem PySem.Spec PyProof.Rows L2

/-- a def of the table is a def of the text -/
def DfOk (T : Nm) (K : PySem.W.Frag) (mg : Str → Option Value) (f : Str) (d : Df) : Prop :=
  ∃ (a : Addr) (fd : FuncData) (st : Stmt) (qual : Str), Fun K f qual st a fd ∧ mg f = some (.ref a) ∧ Binds K fd d.ps [] ∧ FnScope d.N d.ps (defScope st) ∧ ckB T d.N (defScope st) d.body (defBody st) = true
/-- what a text gives -/
structure Txt (Tb : Tab) (gl : GL) (T : Nm) (K : PySem.W.Frag) (mg : Str → Option Value) : Prop where
  glob : ∀ x d, gl x = some d → ∃ u v, mg x = some u ∧ RelV v u ∧ (∀ A H, Rep K A H d v)
  blt : ∀ x, x ∈ T.bl → mg x = none
  fs : ∀ f, T.fs f = (Tb.lookup f).map (·.ps)
  defs : ∀ f d, Tb.lookup f = some d → DfOk T K mg f d
/-- one def after the other -/
def DfAll (T : Nm) (K : PySem.W.Frag) (mg : Str → Option Value) : Tab → Prop
  | [] => True
  | p :: r => DfOk T K mg p.1 p.2 ∧ DfAll T K mg r
theorem DfAll.get {T : Nm} {K : PySem.W.Frag} {mg : Str → Option Value} : ∀ {Tb : Tab}, DfAll T K mg Tb → ∀ f d, Tb.lookup f = some d → DfOk T K mg f d
  | [], _, _, _, e => by cases e
  | (g, d') :: r, ⟨h1, h2⟩, f, d, e => by
    rw [List.lookup_cons] at e
    split at e
    · rename_i z
      cases e
      rw [beq_iff_eq] at z
      subst z
      exact h1
    · exact h2.get f d e
def NoneAll (mg : Str → Option Value) : List Str → Prop
  | [] => True
  | x :: r => mg x = none ∧ NoneAll mg r
theorem NoneAll.get {mg : Str → Option Value} : ∀ {l : List Str}, NoneAll mg l → ∀ x, x ∈ l → mg x = none
  | [], _, _, h => by cases h
  | y :: r, ⟨h1, h2⟩, x, h => by
    rcases List.mem_cons.1 h with rfl | h
    · exact h1
    · exact h2.get x h
def GlAll (K : PySem.W.Frag) (mg : Str → Option Value) : List (Str × D) → Prop
  | [] => True
  | p :: r => (∃ u v, mg p.1 = some u ∧ RelV v u ∧ ∀ A H, Rep K A H p.2 v) ∧ GlAll K mg r
theorem GlAll.get {K : PySem.W.Frag} {mg : Str → Option Value} : ∀ {l : List (Str × D)}, GlAll K mg l → ∀ x d, l.lookup x = some d → ∃ u v, mg x = some u ∧ RelV v u ∧ ∀ A H, Rep K A H d v
  | [], _, _, _, e => by cases e
  | (g, d') :: r, ⟨h1, h2⟩, f, d, e => by
    rw [List.lookup_cons] at e
    split at e
    · rename_i z
      cases e
      rw [beq_iff_eq] at z
      subst z
      exact h1
    · exact h2.get f d e
theorem gl_str {K : PySem.W.Frag} {mg : Str → Option Value} {x y : Str} {t : Tok} (h : mg x = some (.str y t)) : ∃ u v, mg x = some u ∧ RelV v u ∧ ∀ A H, Rep K A H (.str y) v := ⟨_, .str y, h, ⟨t, rfl⟩, fun A H => by simp only [Rep]⟩
theorem gl_int {K : PySem.W.Frag} {mg : Str → Option Value} {x : Str} {y : Int} {t : Tok} (h : mg x = some (.int y t)) : ∃ u v, mg x = some u ∧ RelV v u ∧ ∀ A H, Rep K A H (.int y) v := ⟨_, .int y, h, ⟨t, rfl⟩, fun A H => by simp only [Rep]⟩
theorem Txt.mk_all {Tb : Tab} {gl : GL} {T : Nm} {K : PySem.W.Frag} {mg : Str → Option Value} (hg : ∀ x d, gl x = some d → ∃ u v, mg x = some u ∧ RelV v u ∧ (∀ A H, Rep K A H d v)) {bs : List Str} (hb : T.bl = bs) (hf : T.fs = fun f => (Tb.lookup f).map (·.ps)) (hn : NoneAll mg bs) (hd : DfAll T K mg Tb) : Txt Tb gl T K mg :=
  ⟨hg, fun x h => hn.get x (hb ▸ h), fun f => congrFun hf f, hd.get⟩
theorem callN_arity {Tb : Tab} {gl : GL} {n : Nat} {f : Str} {d : Df} (h : Tb.lookup f = some d) {ds : List D} {S : Sto} (hl : ds.length ≠ d.ps.length) : callN Tb gl n f ds S = .no := by
  cases n with
  | zero => rfl
  | succ n => simp only [callN, h]; rw [if_neg hl]
theorem envR_start {K : PySem.W.Frag} {A : List Addr} {H : Hp} {N : List Str} {ds : List D} {vs : List V} (r : Reps K A H ds vs) : EnvR K A H (ds.map some ++ List.replicate (N.length - ds.length) none) (L2.start N vs) := by
  have hl := r.length
  unfold L2.start
  refine ⟨by rw [List.length_append, List.length_append, List.length_map, List.length_map, List.length_replicate, List.length_replicate, hl], fun i d e => ?_⟩
  by_cases hi : i < ds.length
  · rw [List.getElem?_append_left (by rw [List.length_map]; exact hi), List.getElem?_map, Option.map_eq_some_iff] at e
    obtain ⟨d', e1, e2⟩ := e
    cases e2
    obtain ⟨v, h1, h2⟩ := r.get e1
    refine ⟨v, ?_, h2⟩
    rw [List.getElem?_append_left (by rw [List.length_map, hl]; exact hi), List.getElem?_map, h1]
    rfl
  · rw [List.getElem?_append_right (by rw [List.length_map]; omega), List.getElem?_replicate] at e
    split at e <;> cases e
section
variable {P : Program} {w : World} {K : PySem.W.Frag} {mg : Str → Option Value} {base : Heap} {Tb : Tab} {gl : GL} {T : Nm}
theorem fn_at (X : Txt Tb gl T K mg) : ∀ (n : Nat) (f : Str) (d : Df) (a : Addr) (fd : FuncData) (st : Stmt) (qual : Str), Tb.lookup f = some d → Fun K f qual st a fd → FnScope d.N d.ps (defScope st) → ckB T d.N (defScope st) d.body (defBody st) = true →
    FnOk P w K mg base (L2.CX P w) n a fd d.ps (spF K mg (callN Tb gl n) f d.ps)
  | 0, f, d, a, fd, st, qual, h, F, sc, ck => by
    refine ⟨fun vs H Q E hsp => ?_, fun A outer s H args us vs Q E hr e0 hb r hsp => ?_⟩
    · obtain ⟨_, _, _, _, _, _, hp⟩ := hsp
      exact hp.elim
    · obtain ⟨_, _, _, _, _, _, hp⟩ := hsp
      exact hp.elim
  | n + 1, f, d, a, fd, st, qual, h, F, sc, ck => by
    refine F.okX sc (fun vs H Q E hsp => ?_) fun cdv A outer s H vs Q E hr hsp => ?_
    · obtain ⟨A, S, ds, _, hr, hl, _⟩ := hsp
      rw [hr.length, hl]
    · obtain ⟨A0, S, ds, hs, hrp, hl, hp⟩ := hsp
      have G : GS T n (callN Tb gl n) gl (cxOf (L2.CX P w) P w K mg base d.N qual (defScope st) a cdv A outer s H E) (fun cls dd _ H => E cls dd H) := by
        refine ⟨⟨takes_of rfl rfl rfl rfl, hr, rfl, sc.nd, passes_of rfl, X.glob, X.blt, fun f' ps hf ds S hne => ?_, fun f' ps hf => ?_⟩, fun _ => rfl, sc.kind⟩
        · rw [X.fs, Option.map_eq_some_iff] at hf
          obtain ⟨d', h1, h2⟩ := hf
          subst h2
          exact callN_arity h1 hne
        · rw [X.fs, Option.map_eq_some_iff] at hf
          obtain ⟨d', h1, h2⟩ := hf
          subst h2
          obtain ⟨a', fd', st', qual', F', g', b', sc', ck'⟩ := X.defs f' d' h1
          exact ⟨a', fd', g', F'.kp, b', fn_at X n f' d' a' fd' st' qual' h1 F' sc' ck'⟩
      refine ⟨_, so_B d.body G ck, A0, S, _, envR_start (N := d.N) hrp, hs, ?_⟩
      simp only [callN, h] at hp
      rw [if_pos hl] at hp
      cases z : evB (callN Tb gl n) gl d.body (ds.map some ++ List.replicate (d.N.length - ds.length) none) S with
      | nx env S1 => rw [z] at hp; exact fun A' H' σ' x s _ => hp A' H' .non x s (by simp only [relD, Rep])
      | rt v S1 => rw [z] at hp; exact hp
      | er c fs env S1 => rw [z] at hp; exact fun A' H' σ' cls d x s _ q => hp A' H' cls d x s q
      | no => rw [z] at hp; exact hp.elim
/-- the law's promise -/
def spLaw (K : PySem.W.Frag) : Sp := fun vs H Q _ => ∃ (a : Addr) (ns : List Int), vs = [.ref a] ∧ Only H ∧ SqL K H a (ns.map V.int) ∧ ns.length ≤ 63 ∧ ∀ H', Q (.bl true) H'
theorem reps_ints {A : List Addr} {H : Hp} : ∀ ns : List Int, Reps K A H (ns.map D.int) (ns.map V.int)
  | [] => Reps.nil
  | n :: ns => Reps.cons (by simp only [Rep]) (reps_ints ns)
theorem law_ok (X : Txt Tb gl T K mg) {n : Nat} {d : Df} (h : Tb.lookup ("law" : Str) = some d) (hps : d.ps = [("script" : Str)])
    (hlaw : ∀ ns : List Int, ns.length ≤ 63 → ∃ S', callN Tb gl n ("law" : Str) [.fl (ns.map D.int)] [] = .ok (.bl true) S') {fa : Addr} {fd : FuncData} {st : Stmt} {qual : Str}
    (F : Fun K ("law" : Str) qual st fa fd) (sc : FnScope d.N d.ps (defScope st)) (ck : ckB T d.N (defScope st) d.body (defBody st) = true) :
    FnOk P w K mg base (L2.CX P w) n fa fd [("script" : Str)] (spLaw K) := by
  have q4 := fn_at (P := P) (w := w) (base := base) X n _ d _ fd st qual h F sc ck
  rw [hps] at q4
  refine q4.imp fun vs H Q E hsp => ?_
  obtain ⟨a, ns, rfl, ho, hS, hl, q⟩ := hsp
  obtain ⟨S', hc⟩ := hlaw ns hl
  have hf : FzL K H a (ns.map V.int) := by
    rcases hS with (hS | ⟨o, hS⟩) | hS
    · rcases ho a with z | ⟨o, xs, z⟩
      · rw [hS] at z; cases z
      · rw [hS] at z; cases z
    · exact .inl ⟨o, hS⟩
    · exact .inr hS
  refine ⟨[], [], [.fl (ns.map D.int)], ⟨rfl, List.nodup_nil, fun n a o e => by simp at e⟩, Reps.cons ?_ Reps.nil, rfl, ?_⟩
  · simp only [Rep]
    exact ⟨a, _, rfl, hf, reps_ints ns⟩
  · rw [hc]
    intro A' H' v x s r
    simp only [relD, Rep] at r
    subst r
    exact q H'
theorem cx_none {H : Hp} {s : Shared} {e : Value} {s' : Shared} (h : L2.CX P w [] H s (fun _ _ _ => False) e s') : False := by
  obtain ⟨_, _, _, _, _, _, _, _, _, _, _, _, z⟩ := h
  exact z
end
end Sw

set_option Elab.async false
set_option linter.all false
set_option maxRecDepth 100000
set_option maxHeartbeats 400000
/-! Sw, part W: what must hold ahead of a text for its end to be as asked. -/
namespace Sw
open PySem PySem.Spec PyProof.Rows L2
abbrev XR := Str → List (Str × D) → Sto → Prop
abbrev XS := Str → List (Str × D) → Sl → Sto → Prop
def R.wp {α : Type} (r : R α) (Q : α → Sto → Prop) (X : XR) : Prop := match r with
  | .ok a S => Q a S
  | .er c fs S => X c fs S
  | .no => False
def RS.wp (r : RS) (Qn : Sl → Sto → Prop) (Qr : D → Sto → Prop) (X : XS) : Prop := match r with
  | .nx σ S => Qn σ S
  | .rt d S => Qr d S
  | .er c fs σ S => X c fs σ S
  | .no => False
def X0 : XR := fun _ _ _ => False
def onB (d : D) (A B : Prop) : Prop := match d with
  | .bl true => A
  | .bl false => B
  | _ => False
def onV (o : Option (Option D)) (P : D → Prop) : Prop := match o with
  | some (some d) => P d
  | _ => False
def onO {α : Type} (o : Option α) (P : α → Prop) : Prop := match o with
  | some d => P d
  | _ => False
def onI (d : D) (P : Int → Prop) : Prop := match d with
  | .int i => P i
  | _ => False
def onZ (d : D) (P : Bool → Prop) : Prop := match d with
  | .bl i => P i
  | _ => False
section
variable {α β : Type} {Q : α → Sto → Prop} {Q' : β → Sto → Prop} {X : XR} {S : Sto}
theorem wp_ok {a : α} : (R.ok a S).wp Q X = Q a S := rfl
theorem wp_er {c fs} : (R.er c fs S : R α).wp Q X = X c fs S := rfl
theorem wp_no : (R.no : R α).wp Q X = False := rfl
theorem wp_bind {r : R α} {f : α → Sto → R β} : (r.bind f).wp Q' X = r.wp (fun a S => (f a S).wp Q' X) X := by cases r <;> rfl
theorem wp_ite {c : Prop} [Decidable c] {a : R α} : (if c then a else .no).wp Q X = (c ∧ a.wp Q X) := by
  split
  · simp only [*, true_and]
  · simp only [*, wp_no, false_and]
theorem wp_mono {r : R α} {Q1 : α → Sto → Prop} {X1 : XR} (h : r.wp Q1 X1) (q : ∀ a S, Q1 a S → Q a S) (x : ∀ c fs S, X1 c fs S → X c fs S) : r.wp Q X := by
  cases r with
  | ok a S => exact q _ _ h
  | er c fs S => exact x _ _ _ h
  | no => exact h
theorem wp_get {r : R α} {Q : α → Sto → Prop} (h : r.wp Q X0) : ∃ a S, r = .ok a S ∧ Q a S := by
  cases r with
  | ok a S => exact ⟨a, S, rfl, h⟩
  | er c fs S => exact h.elim
  | no => exact h.elim
theorem wp_of {r : R α} {a : α} {S : Sto} (h : r = .ok a S) : r.wp Q X = Q a S := by rw [h]; rfl
theorem onB_bl {b : Bool} {A B : Prop} : onB (.bl b) A B = if b = true then A else B := by cases b <;> rfl
theorem onV_some {d : D} {P : D → Prop} : onV (some (some d)) P = P d := rfl
theorem onO_some {a : α} {P : α → Prop} : onO (some a) P = P a := rfl
theorem onO_none {P : α → Prop} : onO none P = False := rfl
theorem onI_int {i : Int} {P : Int → Prop} : onI (.int i) P = P i := rfl
theorem onZ_bl {i : Bool} {P : Bool → Prop} : onZ (.bl i) P = P i := rfl
theorem ifI {c : Prop} [Decidable c] {A B : Prop} (h : c → A) (k : ¬c → B) : if c then A else B := by
  split
  · exact h ‹_›
  · exact k ‹_›
end
section
variable {Qn : Sl → Sto → Prop} {Qr : D → Sto → Prop} {X : XS} {S : Sto} {σ : Sl} {α : Type}
theorem ws_nx : (RS.nx σ S).wp Qn Qr X = Qn σ S := rfl
theorem ws_rt {d : D} : (RS.rt d S).wp Qn Qr X = Qr d S := rfl
theorem ws_er {c fs} : (RS.er c fs σ S).wp Qn Qr X = X c fs σ S := rfl
theorem ws_no : (RS.no).wp Qn Qr X = False := rfl
theorem ws_bind {r : RS} {f : Sl → Sto → RS} : (r.bind f).wp Qn Qr X = r.wp (fun σ S => (f σ S).wp Qn Qr X) Qr X := by cases r <;> rfl
theorem ws_st {r : R α} {f : α → Sto → RS} : (r.st σ f).wp Qn Qr X = r.wp (fun a S => (f a S).wp Qn Qr X) (fun c fs S => X c fs σ S) := by cases r <;> rfl
theorem ws_mono {r : RS} {Qn1 : Sl → Sto → Prop} {Qr1 : D → Sto → Prop} {X1 : XS} (h : r.wp Qn1 Qr1 X1) (q : ∀ a S, Qn1 a S → Qn a S) (p : ∀ a S, Qr1 a S → Qr a S) (x : ∀ c fs σ S, X1 c fs σ S → X c fs σ S) : r.wp Qn Qr X := by
  cases r with
  | nx a S => exact q _ _ h
  | rt a S => exact p _ _ h
  | er c fs S => exact x _ _ _ _ h
  | no => exact h
end
/-! ### expressions -/
section
variable {cf : CF} {gl : GL} {σ : Sl} {S : Sto} {Q : D → Sto → Prop} {X : XR} {a b c : E}
theorem wE_var {i x} : (evE cf gl (.var i x) σ S).wp Q X = onV σ[i]? (fun d => Q d S) := by
  simp only [evE]
  split <;> simp_all [onV, wp_ok, wp_no]
theorem wE_cst {d} : (evE cf gl (.cst d) σ S).wp Q X = Q d S := by simp only [evE, wp_ok]
theorem wE_glb {x} : (evE cf gl (.glb x) σ S).wp Q X = onO (gl x) (fun d => Q d S) := by
  simp only [evE]
  split <;> simp_all [onO, wp_ok, wp_no]
theorem wE_bin {o} : (evE cf gl (.bin o a b) σ S).wp Q X = (evE cf gl a σ S).wp (fun x S => (evE cf gl b σ S).wp (fun y S => (opB o x y S).wp Q X) X) X := by simp only [evE, wp_bind]
theorem wE_neg : (evE cf gl (.neg a) σ S).wp Q X = (evE cf gl a σ S).wp (fun x S => onI x fun i => Q (.int (-i)) S) X := by
  simp only [evE, wp_bind]
  congr 1
  funext x S
  cases x <;> rfl
theorem wE_cmp {o} : (evE cf gl (.cmp o a b) σ S).wp Q X = (evE cf gl a σ S).wp (fun x S => (evE cf gl b σ S).wp (fun y S => (opC o x y S).wp Q X) X) X := by simp only [evE, wp_bind]
theorem wE_chn {o o'} : (evE cf gl (.chn o o' a b c) σ S).wp Q X = (evE cf gl a σ S).wp (fun x S => (evE cf gl b σ S).wp (fun y S => (opC o x y S).wp (fun z S => onB z ((evE cf gl c σ S).wp (fun w S => (opC o' y w S).wp Q X) X) (Q (.bl false) S)) X) X) X := by
  simp only [evE, wp_bind]
  congr 1; funext x S; congr 1; funext y S; congr 1; funext z S
  cases z with
  | bl b => cases b <;> simp only [onB, wp_ok, wp_bind]
  | _ => rfl
theorem wE_band : (evE cf gl (.band a b) σ S).wp Q X = (evE cf gl a σ S).wp (fun x S => onB x ((evE cf gl b σ S).wp Q X) (Q (.bl false) S)) X := by
  simp only [evE, wp_bind]
  congr 1; funext z S
  cases z with
  | bl b => cases b <;> simp only [onB, wp_ok, wp_bind]
  | _ => rfl
theorem wE_bor : (evE cf gl (.bor a b) σ S).wp Q X = (evE cf gl a σ S).wp (fun x S => onB x (Q (.bl true) S) ((evE cf gl b σ S).wp Q X)) X := by
  simp only [evE, wp_bind]
  congr 1; funext z S
  cases z with
  | bl b => cases b <;> simp only [onB, wp_ok, wp_bind]
  | _ => rfl
theorem wE_not : (evE cf gl (.bnot a) σ S).wp Q X = (evE cf gl a σ S).wp (fun x S => onZ x fun b => Q (.bl (!b)) S) X := by
  simp only [evE, wp_bind]
  congr 1; funext z S
  cases z <;> rfl
theorem wE_ite : (evE cf gl (.ite c a b) σ S).wp Q X = (evE cf gl c σ S).wp (fun x S => onB x ((evE cf gl a σ S).wp Q X) ((evE cf gl b σ S).wp Q X)) X := by
  simp only [evE, wp_bind]
  congr 1; funext z S
  cases z with
  | bl b => cases b <;> simp only [onB, wp_ok, wp_bind]
  | _ => rfl
theorem wE_tup {es} : (evE cf gl (.tup es) σ S).wp Q X = (evL cf gl es σ S).wp (fun xs S => xs.length ≤ sizeLine ∧ Q (.tup xs) S) X := by simp only [evE, wp_bind, wp_ite, wp_ok]
theorem wE_lst {es} : (evE cf gl (.lst es) σ S).wp Q X = (evL cf gl es σ S).wp (fun xs S => xs.length ≤ sizeLine ∧ Q (.ref S.length) (S ++ [.lst xs])) X := by simp only [evE, wp_bind, wp_ite, wp_ok]
theorem wE_ix : (evE cf gl (.ix a b) σ S).wp Q X = (evE cf gl a σ S).wp (fun x S => (evE cf gl b σ S).wp (fun y S => (opI x y S).wp Q X) X) X := by simp only [evE, wp_bind]
theorem wE_slc {lo hi} : (evE cf gl (.slc a lo hi) σ S).wp Q X = (evE cf gl a σ S).wp (fun x S => (evO cf gl lo σ S).wp (fun l S => (evO cf gl hi σ S).wp (fun h S => (opS x l h S).wp Q X) X) X) X := by simp only [evE, wp_bind]
theorem wE_call {f es} : (evE cf gl (.call f es) σ S).wp Q X = (evL cf gl es σ S).wp (fun xs S => (cf f xs S).wp Q X) X := by simp only [evE, wp_bind]
theorem wE_blt {f es} : (evE cf gl (.blt f es) σ S).wp Q X = (evL cf gl es σ S).wp (fun xs S => (opF f xs S).wp Q X) X := by simp only [evE, wp_bind]
theorem wE_isi {t} : (evE cf gl (.isi a t) σ S).wp Q X = (evE cf gl a σ S).wp (fun x S => (opT x t S).wp Q X) X := by simp only [evE, wp_bind]
theorem wE_mth {m es} : (evE cf gl (.mth m a es) σ S).wp Q X = (evE cf gl a σ S).wp (fun x S => rcv m x S = true ∧ (evL cf gl es σ S).wp (fun xs S => (opM m x xs S).wp Q X) X) X := by simp only [evE, wp_bind, wp_ite]
theorem wE_one : (evE cf gl (.one a) σ S).wp Q X = (evE cf gl a σ S).wp Q X := by simp only [evE]
theorem wE_comp {tg it cond elt} : (evE cf gl (.comp tg it cond elt) σ S).wp Q X = (evI cf gl it σ S).wp (fun p S => (compL (fun σ S => (evC cf gl cond σ S).quiet) (fun σ S => (evE cf gl elt σ S).quiet) tg p.2 p.1 σ S []).wp (fun ds S => Q (.ref S.length) (S ++ [.lst ds])) X) X := by simp only [evE, wp_bind, wp_ok]
theorem wE_fst {es} : (evE cf gl (.fst es) σ S).wp Q X = (evF cf gl es σ S Str.empty).wp Q X := by simp only [evE]
theorem wL_nil {Q : List D → Sto → Prop} : (evL cf gl .nil σ S).wp Q X = Q [] S := by simp only [evL, wp_ok]
theorem wL_cons {e r} {Q : List D → Sto → Prop} : (evL cf gl (.cons e r) σ S).wp Q X = (evE cf gl e σ S).wp (fun x S => (evL cf gl r σ S).wp (fun xs S => Q (x :: xs) S) X) X := by simp only [evL, wp_bind, wp_ok]
theorem wO_none {Q : Option Int → Sto → Prop} : (evO cf gl .none σ S).wp Q X = Q none S := by simp only [evO, wp_ok]
theorem wO_some {e} {Q : Option Int → Sto → Prop} : (evO cf gl (.some e) σ S).wp Q X = (evE cf gl e σ S).wp (fun x S => onI x fun i => Q (some i) S) X := by
  simp only [evO, wp_bind]
  congr 1; funext z S
  cases z <;> rfl
theorem wC_none {Q : Bool → Sto → Prop} : (evC cf gl .none σ S).wp Q X = Q true S := by simp only [evC, wp_ok]
theorem wC_some {e} {Q : Bool → Sto → Prop} : (evC cf gl (.some e) σ S).wp Q X = (evE cf gl e σ S).wp (fun x S => onZ x fun i => Q i S) X := by
  simp only [evC, wp_bind]
  congr 1; funext z S
  cases z <;> rfl
theorem wF_nil {acc} : (evF cf gl .nil σ S acc).wp Q X = Q (.str acc) S := by simp only [evF, wp_ok]
theorem wF_cons {e r acc} : (evF cf gl (.cons e r) σ S acc).wp Q X = (evE cf gl e σ S).wp (fun x S => onO (fmt x) fun y => (acc ++ y).length ≤ sizeLine ∧ (evF cf gl r σ S (acc ++ y)).wp Q X) X := by
  simp only [evF, wp_bind]
  congr 1; funext z S
  cases fmt z with
  | none => rfl
  | some y => exact wp_ite
theorem wI_seq {e} {Q : List D × Srcs → Sto → Prop} : (evI cf gl (.seq e) σ S).wp Q X = (evE cf gl e σ S).wp (fun x S => onO (walk S x) fun p => Q p S) X := by
  simp only [evI, wp_bind, wlk]
  congr 1; funext z S
  cases walk S z <;> rfl
theorem wI_rng {es} {Q : List D × Srcs → Sto → Prop} : (evI cf gl (.rng es) σ S).wp Q X = (evL cf gl es σ S).wp (fun xs S => (opR xs S).wp Q X) X := by simp only [evI, wp_bind]
theorem wI_enm {es} {Q : List D × Srcs → Sto → Prop} : (evI cf gl (.enm es) σ S).wp Q X = (evL cf gl es σ S).wp (fun xs S => (opN xs S).wp Q X) X := by simp only [evI, wp_bind]
theorem wI_zip {es} {Q : List D × Srcs → Sto → Prop} : (evI cf gl (.zip es) σ S).wp Q X = (evL cf gl es σ S).wp (fun xs S => (opZ xs S).wp Q X) X := by simp only [evI, wp_bind]
/-! operations -/
variable {i j : Int}
theorem wB_add : (opB .add (.int i) (.int j) S).wp Q X = Q (.int (i + j)) S := rfl
theorem wB_adds {x y : Str} : (opB .add (.str x) (.str y) S).wp Q X = (x.length + y.length ≤ sizeLine ∧ Q (.str (x ++ y)) S) := wp_ite
theorem wB_addt {x y : List D} : (opB .add (.tup x) (.tup y) S).wp Q X = ((x.isEmpty = false ∧ x.length + y.length ≤ sizeLine) ∧ Q (.tup (x ++ y)) S) := wp_ite
theorem wB_sub : (opB .sub (.int i) (.int j) S).wp Q X = Q (.int (i - j)) S := rfl
theorem wB_mul : (opB .mul (.int i) (.int j) S).wp Q X = (bigI i j = true ∧ Q (.int (i * j)) S) := wp_ite
theorem wB_fdv : (opB .fdiv (.int i) (.int j) S).wp Q X = ((j ≠ 0 ∧ j.natAbs < 1073741824) ∧ Q (.int (i.fdiv j)) S) := wp_ite
theorem wB_mod : (opB .mod (.int i) (.int j) S).wp Q X = (j ≠ 0 ∧ Q (.int (i.fmod j)) S) := wp_ite
theorem wB_pow : (opB .pow (.int i) (.int j) S).wp Q X = ((0 ≤ j ∧ j ≤ 1000000 ∧ i.natAbs < 2 ^ 64) ∧ Q (.int (i ^ j.toNat)) S) := wp_ite
theorem wC_lt : (opC .lt (.int i) (.int j) S).wp Q X = Q (.bl (decide (i < j))) S := rfl
theorem wC_le : (opC .le (.int i) (.int j) S).wp Q X = Q (.bl (decide (i ≤ j))) S := rfl
theorem wC_gt : (opC .gt (.int i) (.int j) S).wp Q X = Q (.bl (decide (j < i))) S := rfl
theorem wC_ge : (opC .ge (.int i) (.int j) S).wp Q X = Q (.bl (decide (j ≤ i))) S := rfl
theorem wC_eq {x y : D} : (opC .eq x y S).wp Q X = onO (eqD S x y) (fun b => Q (.bl b) S) := by
  show (blR _ S).wp Q X = _
  cases eqD S x y <;> rfl
theorem wC_ne {x y : D} : (opC .ne x y S).wp Q X = onO (eqD S x y) (fun b => Q (.bl (!b)) S) := by
  show (blR _ S).wp Q X = _
  cases eqD S x y <;> rfl
theorem wC_is {x : D} : (opC .is x .non S).wp Q X = Q (.bl (isNon x)) S := rfl
theorem wC_isnot {x : D} : (opC .isnot x .non S).wp Q X = Q (.bl (!isNon x)) S := rfl
theorem eqD_int : eqD S (.int i) (.int j) = some (decide (i = j)) := rfl
theorem eqD_str {x y : Str} : eqD S (.str x) (.str y) = some (decide (x = y)) := rfl
theorem eqD_bl {x y : Bool} : eqD S (.bl x) (.bl y) = some (decide (x = y)) := rfl
theorem wI_ix {x : D} (h : ∀ z, x ≠ .str z) : (opI x (.int i) S).wp Q X = onO (items? S x) (fun ds => onO (atI ds i) fun d => Q d S) := by
  unfold opI
  cases x with
  | str z => exact absurd rfl (h z)
  | _ =>
    dsimp only
    split
    · rename_i e
      simp only [e, onO_some]
      split
      · rename_i e2; simp only [e2, onO_some, wp_ok]
      · rename_i e2; simp only [e2, onO_none, wp_no]
    · rename_i e
      simp only [e, onO_none, wp_no]
theorem wI_ref {n : Nat} : (opI (.ref n) (.int i) S).wp Q X = onO (items? S (.ref n)) (fun ds => onO (atI ds i) fun d => Q d S) := wI_ix (fun z => by simp)
theorem wI_tup {xs : List D} : (opI (.tup xs) (.int i) S).wp Q X = onO (atI xs i) (fun d => Q d S) := wI_ix (fun z => by simp)
theorem items_ref {n : Nat} {ds : List D} (h : S[n]? = some (.lst ds)) : items? S (.ref n) = some ds := by simp only [items?, h]
theorem lst_ref {n : Nat} {ds : List D} (h : S[n]? = some (.lst ds)) : lst? S (.ref n) = some (n, ds) := by simp only [lst?, h]
theorem stab_nil : stab S [] = true := by
  unfold stab
  simp
theorem stab_one {n : Nat} {ds : List D} (h : S[n]? = some (.lst ds)) : stab S [(n, ds)] = true := by
  unfold stab
  simpa using h
end
/-! ### statements -/
/-- one turn of a for -/
noncomputable def bdF (cf : CF) (gl : GL) (tg : List (Str × Nat)) (body : SL) (d : D) (σ : Sl) (S : Sto) : RS := match bindT tg d σ with
  | some σ1 => evB cf gl body σ1 S
  | none => .no
section
variable {cf : CF} {gl : GL} {σ : Sl} {S : Sto} {Qn : Sl → Sto → Prop} {Qr : D → Sto → Prop} {X : XS}
theorem wS_exp {e} : (evS cf gl (.exp e) σ S).wp Qn Qr X = (evE cf gl e σ S).wp (fun _ S => Qn σ S) (fun c fs S => X c fs σ S) := by simp only [evS, ws_st, ws_nx]
theorem wS_nam {i x e} : (evS cf gl (.asg (.nam i x) e) σ S).wp Qn Qr X = (evE cf gl e σ S).wp (fun d S => Qn (σ.set i (some d)) S) (fun c fs S => X c fs σ S) := by simp only [evS, ws_st, ws_nx]
theorem wS_sub {o i e} : (evS cf gl (.asg (.sub o i) e) σ S).wp Qn Qr X = (evE cf gl e σ S).wp (fun d S => (evE cf gl o σ S).wp (fun x S => (evE cf gl i σ S).wp (fun y S => onI y fun k => onO (lst? S x) fun p => onO (ixN p.2.length k) fun j => Qn σ (S.set p.1 (.lst (p.2.set j d)))) (fun c fs S => X c fs σ S)) (fun c fs S => X c fs σ S)) (fun c fs S => X c fs σ S) := by
  simp only [evS, ws_st]
  congr 1; funext d S; congr 1; funext x S; congr 1; funext y S
  unfold opSet
  cases y with
  | int k =>
    cases lst? S x with
    | none => rfl
    | some p =>
      obtain ⟨n, ds⟩ := p
      simp only [onI_int, onO_some]
      split
      · rename_i e; simp only [e, onO_some, ws_nx]
      · rename_i e; simp only [e, onO_none, ws_no]
  | _ => cases lst? S x <;> rfl
theorem wS_tup {xs e} : (evS cf gl (.asg (.tup xs) e) σ S).wp Qn Qr X = (evE cf gl e σ S).wp (fun d S => onO (bindU S xs d σ) fun σ' => Qn σ' S) (fun c fs S => X c fs σ S) := by
  simp only [evS, ws_st]
  congr 1; funext d S
  cases bindU S xs d σ <;> rfl
theorem wS_par {x y a b} : (evS cf gl (.par x y a b) σ S).wp Qn Qr X = (evE cf gl a σ S).wp (fun d S => (evE cf gl b σ S).wp (fun e S => Qn ((σ.set x.2 (some d)).set y.2 (some e)) S) (fun c fs S => X c fs σ S)) (fun c fs S => X c fs σ S) := by simp only [evS, ws_st, ws_nx]
theorem wS_ret0 : (evS cf gl (.ret .none) σ S).wp Qn Qr X = Qr .non S := by simp only [evS, ws_rt]
theorem wS_ret {e} : (evS cf gl (.ret (.some e)) σ S).wp Qn Qr X = (evE cf gl e σ S).wp Qr (fun c fs S => X c fs σ S) := by simp only [evS, ws_st, ws_rt]
theorem wS_ite {c a b} : (evS cf gl (.ite c a b) σ S).wp Qn Qr X = (evE cf gl c σ S).wp (fun d S => onB d ((evB cf gl a σ S).wp Qn Qr X) ((evB cf gl b σ S).wp Qn Qr X)) (fun c fs S => X c fs σ S) := by
  simp only [evS, ws_st]
  congr 1; funext d S
  cases d with
  | bl b => cases b <;> rfl
  | _ => rfl
theorem wS_for {tg it body} : (evS cf gl (.fr tg it body) σ S).wp Qn Qr X = (evI cf gl it σ S).wp (fun p S => (forL (bdF cf gl tg body) p.2 p.1 σ S).wp Qn Qr X) (fun c fs S => X c fs σ S) := by
  simp only [evS]
  exact ws_st
theorem wS_whl {c body} : (evS cf gl (.whl c body) σ S).wp Qn Qr X = (whl (fun σ S => evE cf gl c σ S) (fun σ S => evB cf gl body σ S) σ S).wp Qn Qr X := by simp only [evS]
theorem wS_pass : (evS cf gl .pass σ S).wp Qn Qr X = Qn σ S := by simp only [evS, ws_nx]
theorem wS_dead : (evS cf gl .dead σ S).wp Qn Qr X = False := by simp only [evS, ws_no]
theorem wT_nil : (evB cf gl .nil σ S).wp Qn Qr X = Qn σ S := by simp only [evB, ws_nx]
theorem wT_cons {s r} : (evB cf gl (.cons s r) σ S).wp Qn Qr X = (evS cf gl s σ S).wp (fun σ S => (evB cf gl r σ S).wp Qn Qr X) Qr X := by simp only [evB, ws_bind]
theorem forW {f : D → Sl → Sto → RS} {c : Srcs} : ∀ {ds : List D} {σ : Sl} {S : Sto} (J : Nat → Sl → Sto → Prop), J 0 σ S → (∀ i σ S, J i σ S → stab S c = true) →
    (∀ i d σ S, J i σ S → ds[i]? = some d → (f d σ S).wp (fun σ' S' => J (i + 1) σ' S') Qr X) → (∀ σ S, J ds.length σ S → Qn σ S) → (forL f c ds σ S).wp Qn Qr X
  | [], σ, S, J, h0, hs, _, he => by
    simp only [forL, if_pos (hs _ _ _ h0), ws_nx]
    exact he _ _ h0
  | d :: ds, σ, S, J, h0, hs, st, he => by
    simp only [forL, if_pos (hs _ _ _ h0), ws_bind]
    refine ws_mono (st 0 d σ S h0 rfl) (fun σ' S' h => ?_) (fun _ _ h => h) fun _ _ _ _ h => h
    exact forW (fun i => J (i + 1)) h (fun i σ S h => hs _ _ _ h) (fun i d' σ S h e => st (i + 1) d' σ S h (by simpa using e)) (fun σ S h => he σ S h)
/-- over the items of tuples, the script and ranges: nothing to lean on -/
theorem forW0 {tg : List (Str × Nat)} {body : SL} {ds : List D} (J : Nat → Sl → Sto → Prop) (h0 : J 0 σ S)
    (st : ∀ i d σ S, J i σ S → ds[i]? = some d → onO (bindT tg d σ) fun σ1 => (evB cf gl body σ1 S).wp (fun σ' S' => J (i + 1) σ' S') Qr X) (he : ∀ σ S, J ds.length σ S → Qn σ S) : (forL (bdF cf gl tg body) [] ds σ S).wp Qn Qr X := forW J h0 (fun _ _ _ _ => stab_nil) (fun i d σ S h e => by
  have q := st i d σ S h e
  unfold bdF
  cases z : bindT tg d σ with
  | none => rw [z] at q; exact q.elim
  | some σ1 => rw [z] at q; exact q) he
theorem forW1 {tg : List (Str × Nat)} {body : SL} {ds : List D} {c : Srcs} (J : Nat → Sl → Sto → Prop) (h0 : J 0 σ S) (hs : ∀ i σ S, J i σ S → stab S c = true)
    (st : ∀ i d σ S, J i σ S → ds[i]? = some d → onO (bindT tg d σ) fun σ1 => (evB cf gl body σ1 S).wp (fun σ' S' => J (i + 1) σ' S') Qr X) (he : ∀ σ S, J ds.length σ S → Qn σ S) : (forL (bdF cf gl tg body) c ds σ S).wp Qn Qr X := forW J h0 hs (fun i d σ S h e => by
  have q := st i d σ S h e
  unfold bdF
  cases z : bindT tg d σ with
  | none => rw [z] at q; exact q.elim
  | some σ1 => rw [z] at q; exact q) he
theorem whlW {c : Sl → Sto → R D} {b : Sl → Sto → RS} (J : Sl → Sto → Prop) (m : Sl → Sto → Nat)
    (st : ∀ σ S, J σ S → (c σ S).wp (fun d S1 => onB d ((b σ S1).wp (fun σ' S' => J σ' S' ∧ m σ' S' < m σ S) Qr X) (Qn σ S1)) (fun x fs S => X x fs σ S)) : ∀ (k : Nat) (σ : Sl) (S : Sto), m σ S ≤ k → J σ S → (whl c b σ S).wp Qn Qr X := by
  intro k
  induction k with
  | zero =>
    intro σ S hk h
    rw [whl_eq, ws_st]
    refine wp_mono (st σ S h) (fun d S1 q => ?_) fun _ _ _ q => q
    cases d with
    | bl t =>
      cases t with
      | true => rw [ws_bind]; exact ws_mono q (fun _ _ z => absurd z.2 (by omega)) (fun _ _ z => z) fun _ _ _ _ z => z
      | false => exact q
    | _ => exact q.elim
  | succ k ih =>
    intro σ S hk h
    rw [whl_eq, ws_st]
    refine wp_mono (st σ S h) (fun d S1 q => ?_) fun _ _ _ q => q
    cases d with
    | bl t =>
      cases t with
      | true => rw [ws_bind]; exact ws_mono q (fun _ _ z => ih _ _ (by omega) z.1) (fun _ _ z => z) fun _ _ _ _ z => z
      | false => exact q
    | _ => exact q.elim
end
/-! ### comprehensions, calls -/
theorem wp_quiet {α : Type} {r : R α} {Q : α → Sto → Prop} {X : XR} : r.quiet.wp Q X = r.wp Q X0 := by cases r <;> rfl
theorem compW {cond : Sl → Sto → R Bool} {elt : Sl → Sto → R D} {tg : List (Str × Nat)} {c : Srcs} {Q : List D → Sto → Prop} {X : XR} {σ : Sl} : ∀ {ds : List D} {S : Sto} {acc : List D} (J : Nat → List D → Sto → Prop), J 0 acc S → (∀ i acc S, J i acc S → stab S c = true) →
    (∀ i d acc S, J i acc S → ds[i]? = some d → onO (bindT tg d σ) fun σ1 => (cond σ1 S).wp (fun b S => if b = true then (elt σ1 S).wp (fun y S => acc.length < sizeLine ∧ J (i + 1) (acc ++ [y]) S) X else J (i + 1) acc S) X) → (∀ acc S, J ds.length acc S → Q acc S) → (compL cond elt tg c ds σ S acc).wp Q X
  | [], S, acc, J, h0, hs, _, he => by
    simp only [compL, if_pos (hs _ _ _ h0), wp_ok]
    exact he _ _ h0
  | d :: ds, S, acc, J, h0, hs, st, he => by
    have q := st 0 d acc S h0 rfl
    simp only [compL, if_pos (hs _ _ _ h0)]
    cases z : bindT tg d σ with
    | none => rw [z] at q; exact q.elim
    | some σ1 =>
      rw [z] at q
      dsimp only
      rw [wp_bind]
      refine wp_mono q (fun b S q => ?_) fun _ _ _ q => q
      cases b with
      | true =>
        rw [if_pos rfl] at q ⊢
        rw [wp_bind]
        refine wp_mono q (fun y S q => ?_) fun _ _ _ q => q
        rw [wp_ite]
        exact ⟨q.1, compW (fun i => J (i + 1)) q.2 (fun i σ S h => hs _ _ _ h) (fun i d' σ S h e => st (i + 1) d' σ S h (by simpa using e)) (fun σ S h => he σ S h)⟩
      | false =>
        rw [if_neg (by decide)] at q ⊢
        exact compW (fun i => J (i + 1)) q (fun i σ S h => hs _ _ _ h) (fun i d' σ S h e => st (i + 1) d' σ S h (by simpa using e)) (fun σ S h => he σ S h)
theorem callW {Tb : Tab} {gl : GL} {n : Nat} {f : Str} {d : Df} {ds : List D} {S : Sto} {Q : D → Sto → Prop} {X : XR} {σ : Sl} (h : Tb.lookup f = some d) (hl : ds.length = d.ps.length) (he : ds.map some ++ List.replicate (d.N.length - ds.length) none = σ) : (callN Tb gl (n + 1) f ds S).wp Q X = (evB (callN Tb gl n) gl d.body σ S).wp (fun _ S => Q .non S) Q (fun c fs _ S => X c fs S) := by
  simp only [callN, h]
  rw [if_pos hl, he]
  cases evB (callN Tb gl n) gl d.body σ S <;> rfl
/-! ### what the store holds; built-ins and methods -/
section
variable {S T U : Sto} {Q : D → Sto → Prop} {X : XR} {n m : Nat} {ds : List D} {i j : Int}
theorem getT {i : Nat} {o : O} (h : T[i]? = some o) : (T ++ U)[i]? = some o := by
  rw [List.getElem?_append_left (List.getElem?_eq_some_iff.1 h).1]
  exact h
theorem getU {l j : Nat} (h : T.length = l) : (T ++ U)[l + j]? = U[j]? := by
  rw [List.getElem?_append_right (by omega)]
  congr 1
  omega
theorem getU0 {l : Nat} (h : T.length = l) : (T ++ U)[l]? = U[0]? := getU (j := 0) h
theorem setU {l j : Nat} {o : O} (h : T.length = l) : (T ++ U).set (l + j) o = T ++ U.set j o := by
  rw [List.set_append_right _ _ (by omega)]
  congr 2
  omega
theorem setU0 {l : Nat} {o : O} (h : T.length = l) : (T ++ U).set l o = T ++ U.set 0 o := setU (j := 0) h
theorem setT {i : Nat} {o : O} (h : i < T.length) : (T ++ U).set i o = T.set i o ++ U := List.set_append_left _ _ h
theorem items_T (h : n < T.length) : items? (T ++ U) (.ref n) = items? T (.ref n) := by simp only [items?, List.getElem?_append_left h]
theorem lst_T (h : n < T.length) : lst? (T ++ U) (.ref n) = lst? T (.ref n) := by simp only [lst?, List.getElem?_append_left h]
theorem items_ss (h : n < S.length) : items? (S.set n (.lst ds)) (.ref n) = some ds := by simp only [items?, List.getElem?_set_self h]
theorem lst_ss (h : n < S.length) : lst? (S.set n (.lst ds)) (.ref n) = some (n, ds) := by simp only [lst?, List.getElem?_set_self h]
theorem items_sn {o : O} (h : m ≠ n) : items? (S.set m o) (.ref n) = items? S (.ref n) := by simp only [items?, List.getElem?_set_ne h]
theorem lst_sn {o : O} (h : m ≠ n) : lst? (S.set m o) (.ref n) = lst? S (.ref n) := by simp only [lst?, List.getElem?_set_ne h]
theorem items_U {l j : Nat} (h : T.length = l) : items? (T ++ U) (.ref (l + j)) = items? U (.ref j) := by simp only [items?, getU h]
theorem lst_U {l j : Nat} {p : Nat × List D} (h : T.length = l) (e : U[j]? = some (.lst ds)) : lst? (T ++ U) (.ref (l + j)) = some (l + j, ds) := by simp only [lst?, getU h, e]
theorem items_tup : items? S (.tup ds) = some ds := rfl
theorem items_fl : items? S (.fl ds) = some ds := rfl
theorem wF_len : (opF .len [.ref n] S).wp Q X = onO (items? S (.ref n)) fun ds => Q (.int ds.length) S := by
  show (fLen (.ref n) S).wp Q X = _
  unfold fLen
  dsimp only
  cases items? S (.ref n) <;> rfl
theorem wF_lent : (opF .len [.tup ds] S).wp Q X = Q (.int ds.length) S := rfl
theorem wF_lens {z : Str} : (opF .len [.str z] S).wp Q X = (z.length ≤ sizeLine ∧ Q (.int z.length) S) := wp_ite
theorem wF_lst {x : D} : (opF .list [x] S).wp Q X = onO (items? S x) fun ds => Q (.ref S.length) (S ++ [.lst ds]) := by
  show (fLst x S).wp Q X = _
  unfold fLst
  cases items? S x <;> rfl
theorem wF_tup {x : D} : (opF .tuple [x] S).wp Q X = onO (items? S x) fun ds => Q (.tup ds) S := by
  show (fTup x S).wp Q X = _
  unfold fTup
  cases items? S x <;> rfl
theorem wF_sum {x : D} : (opF .sum [x] S).wp Q X = onO (lst? S x) fun p => onO (ints? p.2) fun ns => Q (.int ns.sum) S := by
  show (fSum x S).wp Q X = _
  unfold fSum
  cases lst? S x with
  | none => rfl
  | some p =>
    obtain ⟨n, ds⟩ := p
    simp only [onO_some]
    cases ints? ds <;> rfl
theorem wF_min : (opF .min [.int i, .int j] S).wp Q X = Q (.int (if j < i then j else i)) S := rfl
theorem wF_max : (opF .max [.int i, .int j] S).wp Q X = Q (.int (if j > i then j else i)) S := rfl
theorem wF_inti : (opF .int [.int i] S).wp Q X = Q (.int i) S := rfl
theorem wF_intb {b : Bool} : (opF .int [.bl b] S).wp Q X = Q (.int (if b = true then 1 else 0)) S := rfl
theorem wF_str : (opF .str [.int i] S).wp Q X = (i.natAbs.log2 < 1920 ∧ Q (.str (toString i)) S) := wp_ite
theorem wM_app {o x : D} : (opM .append o [x] S).wp Q X = onO (lst? S o) fun p => p.2.length < sizeLine ∧ Q .non (S.set p.1 (.lst (p.2 ++ [x]))) := by
  show (mApp o x S).wp Q X = _
  unfold mApp
  cases lst? S o with
  | none => rfl
  | some p => exact wp_ite
theorem wM_popA {o : D} : (opM .popA o [.int i] S).wp Q X = onO (lst? S o) fun p => (-(2 ^ 63) ≤ i ∧ i < 2 ^ 63) ∧ onO (seqIndex? i p.2.length) fun k => onO p.2[k]? fun d => Q d (S.set p.1 (.lst (p.2.eraseIdx k))) := by
  show (mPopA o (.int i) S).wp Q X = _
  unfold mPopA
  dsimp only
  cases lst? S o with
  | none => rfl
  | some p =>
    obtain ⟨n, ds⟩ := p
    simp only [onO_some, wp_ite]
    congr 1
    cases seqIndex? i ds.length with
    | none => rfl
    | some k =>
      simp only [onO_some]
      cases ds[k]? <;> rfl
theorem wM_join {a : Str} {x : D} : (opM .join (.str a) [x] S).wp Q X = onO (items? S x) fun ds => onO (strs? ds) fun ys => (ys.map (·.length)).sum + ys.length * a.length ≤ 16777216 ∧ Q (.str (Txt.join a ys)) S := by
  show (mJoin (.str a) x S).wp Q X = _
  unfold mJoin
  dsimp only
  cases items? S x with
  | none => rfl
  | some ds =>
    simp only [onO_some]
    cases strs? ds with
    | none => rfl
    | some ys => exact wp_ite
theorem wM_split {a b : Str} : (opM .split (.str a) [.str b] S).wp Q X = (((b.length == 0) = false ∧ a.length + 2 ≤ sizeLine) ∧ Q (.ref S.length) (S ++ [.lst ((Txt.split a b).map D.str)])) := wp_ite
theorem rcv_app {o : D} : (rcv .append o S = true) = ((lst? S o).isSome = true) := rfl
theorem rcv_popA {o : D} : (rcv .popA o S = true) = ((lst? S o).isSome = true) := rfl
theorem rcv_join {z : Str} : (rcv .join (.str z) S = true) = True := by simp only [rcv, isS]
theorem rcv_split {z : Str} : (rcv .split (.str z) S = true) = True := by simp only [rcv, isS]
theorem wR_1 {Q : List D × Srcs → Sto → Prop} : (opR [.int j] S).wp Q X = (fits62 j = true ∧ Q (rngD 0 j.toNat, []) S) := wp_ite
theorem wR_2 {Q : List D × Srcs → Sto → Prop} : (opR [.int i, .int j] S).wp Q X = ((fits62 i = true ∧ fits62 j = true) ∧ Q (rngD i (j - i).toNat, []) S) := wp_ite
theorem wN_ref {Q : List D × Srcs → Sto → Prop} (h : S[n]? = some (.lst ds)) : (opN [.ref n] S).wp Q X = Q (enmD ds, [(n, ds)]) S := by
  simp only [opN, seqs?, h, wp_ok]
theorem wZ_3 {x y z : List D} {Q : List D × Srcs → Sto → Prop} : (opZ [.tup x, .tup y, .tup z] S).wp Q X = Q ((x.zip (y.zip z)).map fun p => .tup [p.1, p.2.1, p.2.2], []) S := rfl
theorem wZ_2 {x y : List D} {Q : List D × Srcs → Sto → Prop} : (opZ [.tup x, .tup y] S).wp Q X = Q ((x.zip y).map fun p => .tup [p.1, p.2], []) S := rfl
theorem walk_tup : walk S (.tup ds) = some (ds, []) := rfl
theorem walk_fl : walk S (.fl ds) = some (ds, []) := rfl
theorem walk_ref (h : S[n]? = some (.lst ds)) : walk S (.ref n) = some (ds, [(n, ds)]) := by simp only [walk, h]
theorem wU_fl {lo hi : Option Int} : (opS (.fl ds) lo hi S).wp Q X = Q (.ref S.length) (S ++ [.lst (cutD ds lo hi)]) := rfl
theorem wT_strs {z : Str} : (opT (.str z) "str" S).wp Q X = Q (.bl true) S := by
  unfold opT tyD
  dsimp only
  rw [show kitS "str" "str" = some true by decide +kernel]
  rfl
theorem at0 {x : D} {r : List D} : atI (x :: r) 0 = some x := atI_nat (j := 0) rfl
theorem at1 {x y : D} {r : List D} : atI (x :: y :: r) 1 = some y := atI_nat (j := 1) rfl
theorem at2 {x y z : D} {r : List D} : atI (x :: y :: z :: r) 2 = some z := atI_nat (j := 2) rfl
theorem at3 {x y z w : D} {r : List D} : atI (x :: y :: z :: w :: r) 3 = some w := atI_nat (j := 3) rfl
theorem at4 {x y z w v : D} {r : List D} : atI (x :: y :: z :: w :: v :: r) 4 = some v := atI_nat (j := 4) rfl
theorem atN {xs : List D} {k : Nat} {x : D} (h : xs[k]? = some x) : atI xs (k : Int) = some x := atI_nat h
theorem atL {xs : List D} {x : D} : atI (xs ++ [x]) (-1) = some x := atI_last _ _
theorem ixn {k n : Nat} (h : k < n) : ixN n (k : Int) = some k := by
  unfold ixN
  rw [if_pos (by omega), if_pos (by omega), Int.toNat_natCast]
theorem ixn_4_0 : ixN 4 0 = some 0 := rfl
theorem ixn_4_1 : ixN 4 1 = some 1 := rfl
theorem ixn_4_2 : ixN 4 2 = some 2 := rfl
theorem ixn_4_3 : ixN 4 3 = some 3 := rfl
theorem fits_w {i : Int} (h : 0 ≤ i) (k : i < 2 ^ 62) : fits62 i = true := by
  unfold fits62
  rw [Bool.and_eq_true, decide_eq_true_eq, decide_eq_true_eq]
  omega
theorem seqIx0 {n : Nat} (h : 0 < n) : seqIndex? 0 n = some 0 := by
  unfold seqIndex?
  simp [h]
theorem bigL {i j : Int} (h : (decide (-(2 ^ 64) < i) && decide (i < 2 ^ 64)) = true) : bigI i j = true := by
  unfold bigI
  rw [h]
  rfl
theorem bigR {i j : Int} (h : (decide (-(2 ^ 64) < j) && decide (j < 2 ^ 64)) = true) : bigI i j = true := by
  unfold bigI
  rw [h, Bool.or_true]
theorem fmod_in {i m : Int} (h : 0 < m) : 0 ≤ i.fmod m ∧ i.fmod m < m := ⟨Int.fmod_nonneg_of_pos i h, Int.fmod_lt_of_pos i h⟩
theorem bigM {i m j : Int} (h : 0 < m) (k : m ≤ 2 ^ 64) : bigI (i.fmod m) j = true := by
  have q := fmod_in (i := i) h
  refine bigL ?_
  rw [Bool.and_eq_true, decide_eq_true_eq, decide_eq_true_eq]
  omega
end
section
variable {S T U W : Sto} {l k : Nat} {o : O} {ds : List D}
theorem items_W (h : T.length = l) : items? (T ++ (U ++ W)) (.ref (l + (U.length + k))) = items? W (.ref k) := by
  rw [items_U h]
  simp only [items?, getU rfl]
theorem items_W0 (h : T.length = l) : items? (T ++ (U ++ W)) (.ref (l + U.length)) = items? W (.ref 0) := items_W (k := 0) h
theorem items_c0 : items? (.lst ds :: W) (.ref 0) = some ds := rfl
theorem items_c1 {o1 : O} : items? (o1 :: .lst ds :: W) (.ref 1) = some ds := rfl
theorem items_c2 {o1 o2 : O} : items? (o1 :: o2 :: .lst ds :: W) (.ref 2) = some ds := rfl
theorem items_c3 {o1 o2 o3 : O} : items? (o1 :: o2 :: o3 :: .lst ds :: W) (.ref 3) = some ds := rfl
theorem items_c4 {o1 o2 o3 o4 : O} : items? (o1 :: o2 :: o3 :: o4 :: .lst ds :: W) (.ref 4) = some ds := rfl
theorem lst_W (h : T.length = l) : lst? (T ++ (U ++ W)) (.ref (l + (U.length + k))) = (lst? W (.ref k)).map fun p => (l + (U.length + p.1), p.2) := by
  simp only [lst?, getU h, getU (T := U) (U := W) rfl]
  cases W[k]? with
  | none => rfl
  | some o => cases o <;> rfl
theorem lst_W0 (h : T.length = l) : lst? (T ++ (U ++ W)) (.ref (l + U.length)) = (lst? W (.ref 0)).map fun p => (l + (U.length + p.1), p.2) := lst_W (k := 0) h
theorem lst_c0 : lst? (.lst ds :: W) (.ref 0) = some (0, ds) := rfl
theorem lst_c1 {o1 : O} : lst? (o1 :: .lst ds :: W) (.ref 1) = some (1, ds) := rfl
theorem lst_c2 {o1 o2 : O} : lst? (o1 :: o2 :: .lst ds :: W) (.ref 2) = some (2, ds) := rfl
theorem lst_c3 {o1 o2 o3 : O} : lst? (o1 :: o2 :: o3 :: .lst ds :: W) (.ref 3) = some (3, ds) := rfl
theorem set_W (h : T.length = l) : (T ++ (U ++ W)).set (l + (U.length + k)) o = T ++ (U ++ W.set k o) := by rw [setU h, setU rfl]
theorem set_W0 (h : T.length = l) : (T ++ (U ++ W)).set (l + U.length) o = T ++ (U ++ W.set 0 o) := set_W (k := 0) h
end
theorem wB_addl {S : Sto} {Q : D → Sto → Prop} {X : XR} {m n : Nat} : (opB .add (.ref m) (.ref n) S).wp Q X = onO (lst? S (.ref m)) fun p => onO (lst? S (.ref n)) fun q => p.2.length + q.2.length ≤ sizeLine ∧ Q (.ref S.length) (S ++ [.lst (p.2 ++ q.2)]) := by
  show (opAdd (.ref m) (.ref n) S).wp Q X = _
  unfold opAdd
  simp only [lst?]
  cases S[m]? with
  | none => rfl
  | some o =>
    cases o with
    | ins _ _ => rfl
    | lst a =>
      cases S[n]? with
      | none => rfl
      | some o =>
        cases o with
        | ins _ _ => rfl
        | lst b => exact wp_ite
section
variable {S T U W G : Sto} {k : Nat} {o : O} {ds : List D}
theorem items_cs : items? (o :: W) (.ref (k + 1)) = items? W (.ref k) := rfl
theorem items_last : items? (G ++ .lst ds :: W) (.ref G.length) = some ds := by
  simp only [items?, getU0 (T := G) rfl, List.getElem?_cons_zero]
theorem ix_in {n : Nat} {x : Int} (h : 0 ≤ x) (k : x < n) : ixN n x = some x.toNat := by
  unfold ixN
  rw [if_pos h, if_pos k]
theorem at_in {ds : List D} {x : Int} {d : D} (h : 0 ≤ x) (e : ds[x.toNat]? = some d) : atI ds x = some d := by
  have := atI_nat (xs := ds) e
  rwa [Int.toNat_of_nonneg h] at this
theorem map_snoc {α : Type} {f : α → D} {ns : List α} {x : α} : ns.map f ++ [f x] = (ns ++ [x]).map f := by rw [List.map_append]; rfl
theorem map_snoc_int {ns : List Int} {x : Int} : ns.map D.int ++ [.int x] = (ns ++ [x]).map D.int := map_snoc
theorem map_set_int {ns : List Int} {x : Int} {i : Nat} : (ns.map D.int).set i (.int x) = (ns.set i x).map D.int := by rw [List.map_set]
theorem atLm {ns : List Int} {x : Int} : atI ((ns ++ [x]).map D.int) (-1) = some (.int x) := by
  rw [List.map_append]
  exact atI_last _ _
end
theorem ints_mapD : ∀ ns : List Int, ints? (ns.map D.int) = some ns
  | [] => rfl
  | n :: ns => by simp only [List.map_cons, ints?, ints_mapD ns, Option.map_some]
theorem strs_mapD : ∀ ns : List Str, strs? (ns.map D.str) = some ns
  | [] => rfl
  | n :: ns => by simp only [List.map_cons, strs?, strs_mapD ns, Option.map_some]
theorem lst_last {G W : Sto} {ds : List D} : lst? (G ++ .lst ds :: W) (.ref G.length) = some (G.length, ds) := by
  simp only [lst?, getU0 (T := G) rfl, List.getElem?_cons_zero]
theorem set_last {G W : Sto} {o o' : O} : (G ++ o :: W).set G.length o' = G ++ o' :: W := by
  rw [setU0 (T := G) rfl, List.set_cons_zero]
theorem fmt_int {i : Int} (h : i.natAbs.log2 < 1920) : fmt (.int i) = some (toString i : Str) := by simp only [fmt, if_pos h]
theorem fmt_strW {y : Str} (h : y.length ≤ sizeLine) : fmt (.str y) = some y := by simp only [fmt, if_pos h]
theorem walk_c0 {ds : List D} {W : Sto} : walk (.lst ds :: W) (.ref 0) = some (ds, [(0, ds)]) := rfl
theorem bind3 {x y z : Str} {i j k : Nat} {a b c : D} {σ : Sl} : bindT [(x, i), (y, j), (z, k)] (.tup [a, b, c]) σ = some (((σ.set i (some a)).set j (some b)).set k (some c)) := rfl
theorem bind2 {x y : Str} {i j : Nat} {a b : D} {σ : Sl} : bindT [(x, i), (y, j)] (.tup [a, b]) σ = some ((σ.set i (some a)).set j (some b)) := rfl
theorem bindU2 {S : Sto} {x y : Str} {i j : Nat} {a b : D} {σ : Sl} : bindU S [(x, i), (y, j)] (.tup [a, b]) σ = some ((σ.set i (some a)).set j (some b)) := rfl
theorem bindU3 {S : Sto} {x y z : Str} {i j k : Nat} {a b c : D} {σ : Sl} : bindU S [(x, i), (y, j), (z, k)] (.tup [a, b, c]) σ = some (((σ.set i (some a)).set j (some b)).set k (some c)) := rfl
theorem take_snoc {α : Type} {l : List α} {i : Nat} {x : α} (h : l[i]? = some x) : l.take (i + 1) = l.take i ++ [x] := by
  rw [List.take_add_one, h]
  rfl
section
variable {S T W G : Sto} {Q : D → Sto → Prop} {X : XR} {z : Str} {i : Int} {n k : Nat} {ds : List D} {x y : D} {o : O}
theorem wI_strW : (opI (.str z) (.int i) S).wp Q X = (z.length ≤ sizeLine ∧ onO (atI z.cps.toList i) fun c => Q (.str ⟨#[c]⟩) S) := by
  show (if z.length ≤ sizeLine then _ else _ : R D).wp Q X = _
  rw [wp_ite]
  cases atI z.cps.toList i <;> rfl
theorem wC_in : (opC .isin x y S).wp Q X = onO (opIn x y S) fun b => Q (.bl b) S := by
  show (blR _ S).wp Q X = _
  cases opIn x y S <;> rfl
theorem wC_notin : (opC .notin x y S).wp Q X = onO (opIn x y S) fun b => Q (.bl (!b)) S := by
  show (blR _ S).wp Q X = _
  cases opIn x y S <;> rfl
theorem opIn_sign {c : Nat} : opIn (.str ⟨#[c]⟩) (.str z) S = some (decide (c ∈ z.cps.toList)) := rfl
theorem walk_str : walk S (.str z) = some (z.cps.toList.map (fun c => D.str ⟨#[c]⟩), []) := rfl
theorem wF_intS : (opF .int [.str z] S).wp Q X = onO (PySem.intText? z) fun n => z.length ≤ 640 ∧ Q (.int n) S := by
  show (fInt (.str z) S).wp Q X = _
  unfold fInt
  dsimp only
  cases PySem.intText? z with
  | none => rfl
  | some n => exact wp_ite
theorem opT_of {t ty : String} {b : Bool} (h1 : tyD S x = some t) (h2 : kitS t ty = some b) : (opT x ty S).wp Q X = Q (.bl b) S := by
  unfold opT
  rw [h1]
  dsimp only
  rw [h2]
  rfl
theorem wT_tt : (opT (.tup ds) "tuple" S).wp Q X = Q (.bl true) S := opT_of rfl (by decide +kernel)
theorem wT_tl : (opT (.tup ds) "list" S).wp Q X = Q (.bl false) S := opT_of rfl (by decide +kernel)
theorem wT_it : (opT (.int i) "tuple" S).wp Q X = Q (.bl false) S := opT_of rfl (by decide +kernel)
theorem wT_il : (opT (.int i) "list" S).wp Q X = Q (.bl false) S := opT_of rfl (by decide +kernel)
theorem wT_is : (opT (.int i) "str" S).wp Q X = Q (.bl false) S := opT_of rfl (by decide +kernel)
theorem wT_ii : (opT (.int i) "int" S).wp Q X = Q (.bl true) S := opT_of rfl (by decide +kernel)
theorem wT_ib : (opT (.int i) "bool" S).wp Q X = Q (.bl false) S := opT_of rfl (by decide +kernel)
theorem wF_all : (opF .all [x] S).wp Q X = onO (lst? S x) fun p => onO (bls? p.2) fun bs => Q (.bl (bs.all id)) S := by
  show (fAA _ x S).wp Q X = _
  unfold fAA
  cases lst? S x with
  | none => rfl
  | some p =>
    obtain ⟨n, ds⟩ := p
    simp only [onO_some]
    cases bls? ds <;> rfl
theorem isNon_non : isNon .non = true := rfl
theorem isNon_int : isNon (.int i) = false := rfl
theorem isNon_ref : isNon (.ref n) = false := rfl
theorem isNon_tup : isNon (.tup ds) = false := rfl
theorem isNon_str : isNon (.str z) = false := rfl
theorem items_V : items? (T ++ W) (.ref (T.length + k)) = items? W (.ref k) := items_U rfl
theorem lst_V : lst? (T ++ W) (.ref (T.length + k)) = (lst? W (.ref k)).map fun p => (T.length + p.1, p.2) := by
  simp only [lst?, getU (T := T) (U := W) rfl]
  cases W[k]? with
  | none => rfl
  | some o => cases o <;> rfl
theorem set_V : (T ++ W).set (T.length + k) o = T ++ W.set k o := setU rfl
theorem bindU3r {a b c : Str} {i j k : Nat} {d1 d2 d3 : D} {σ : Sl} (h : items? S x = some [d1, d2, d3]) : bindU S [(a, i), (b, j), (c, k)] x σ = some (((σ.set i (some d1)).set j (some d2)).set k (some d3)) := by
  unfold bindU
  rw [h]
  rfl
theorem bls_repW : ∀ n : Nat, bls? (List.replicate n (.bl true)) = some (List.replicate n true)
  | 0 => rfl
  | n + 1 => by simp only [List.replicate_succ, bls?, bls_repW n, Option.map_some]
theorem all_repW : ∀ n : Nat, (List.replicate n true).all id = true
  | 0 => rfl
  | n + 1 => by simp only [List.replicate_succ, List.all_cons, all_repW n, id_eq, Bool.and_self]
end
end Sw

set_option Elab.async false
set_option linter.all false
set_option maxRecDepth 100000
set_option maxHeartbeats 1000000
namespace K80
open PySem PySem.Spec PyProof.Rows L2 Sw
def d_stand_text : Df := ⟨["stand"], ["stand", "level", "right", "left"],
    (.cons (.ret (.some (.mth .join (.cst (.str " ")) (.cons (.comp [("level", 1), ("right", 2), ("left", 3)] (.zip (.cons (.ix (.var 0 "stand") (.cst (.int 0))) (.cons (.ix (.var 0 "stand") (.cst (.int 1))) (.cons (.ix (.var 0 "stand") (.cst (.int 2))) .nil)))) .none (.fst (.cons (.var 1 "level") (.cons (.cst (.str ":")) (.cons (.var 2 "right") (.cons (.cst (.str ":")) (.cons (.var 3 "left") .nil))))))) .nil))))
    .nil)⟩
def d_deed_text : Df := ⟨["deed"], ["deed", "word", "number"],
    (.cons (.asg (.tup [("word", 1), ("number", 2)]) (.var 0 "deed"))
    (.cons (.ret (.some (.fst (.cons (.var 1 "word") (.cons (.cst (.str " ")) (.cons (.var 2 "number") .nil))))))
    .nil))⟩
def d__law_mixed : Df := ⟨["cell", "turn"], ["cell", "turn", "stir"],
    (.cons (.asg (.nam 2 "stir") (.bin .mod (.bin .mul (.bin .add (.bin .add (.bin .mod (.var 0 "cell") (.cst (.int 1000000007))) (.bin .mul (.cst (.int 40692)) (.var 1 "turn"))) (.cst (.int 1))) (.cst (.int 48271))) (.cst (.int 2147483647))))
    (.cons (.asg (.nam 2 "stir") (.bin .mod (.bin .mul (.var 2 "stir") (.var 2 "stir")) (.cst (.int 998244353))))
    (.cons (.ret (.some (.bin .fdiv (.bin .mod (.bin .add (.bin .mul (.var 2 "stir") (.cst (.int 69621))) (.bin .mul (.cst (.int 7919)) (.var 1 "turn"))) (.cst (.int 1000000007))) (.cst (.int 7)))))
    .nil)))⟩
def d__law_tape : Df := ⟨["script"], ["script", "seed", "cell"],
    (.cons (.asg (.nam 1 "seed") (.cst (.int 0)))
    (.cons (.fr [("cell", 2)] (.seq (.slc (.var 0 "script") .none (.some (.cst (.int 63))))) (.cons (.asg (.nam 1 "seed") (.bin .mod (.bin .add (.bin .mul (.var 1 "seed") (.cst (.int 69621))) (.var 2 "cell")) (.cst (.int 2147483647))))
    .nil))
    (.cons (.ret (.some (.lst (.cons (.blt .list (.cons (.slc (.var 0 "script") .none (.some (.cst (.int 63)))) .nil)) (.cons (.cst (.int 0)) (.cons (.var 1 "seed") (.cons (.cst (.int 0)) .nil)))))))
    .nil)))⟩
def d__law_take : Df := ⟨["tape", "many"], ["tape", "many", "cell", "found"],
    (.cons (.asg (.sub (.var 0 "tape") (.cst (.int 3))) (.bin .add (.ix (.var 0 "tape") (.cst (.int 3))) (.cst (.int 1))))
    (.cons (.ite (.band (.cmp .eq (.ix (.var 0 "tape") (.cst (.int 1))) (.cst (.int 0))) (.one (.cmp .gt (.blt .len (.cons (.ix (.var 0 "tape") (.cst (.int 0))) .nil)) (.cst (.int 0))))) (.cons (.asg (.nam 2 "cell") (.mth .popA (.ix (.var 0 "tape") (.cst (.int 0))) (.cons (.cst (.int 0)) .nil)))
    (.cons (.ite (.cmp .lt (.var 2 "cell") (.bin .pow (.cst (.int 10)) (.cst (.int 18)))) (.cons (.ret (.some (.bin .mod (.call "_law_mixed" (.cons (.var 2 "cell") (.cons (.ix (.var 0 "tape") (.cst (.int 3))) .nil))) (.var 1 "many"))))
    .nil) .nil)
    (.cons (.asg (.sub (.var 0 "tape") (.cst (.int 1))) (.var 2 "cell"))
    .nil))) .nil)
    (.cons (.ite (.cmp .gt (.ix (.var 0 "tape") (.cst (.int 1))) (.cst (.int 0))) (.cons (.asg (.nam 3 "found") (.bin .mod (.ix (.var 0 "tape") (.cst (.int 1))) (.var 1 "many")))
    (.cons (.asg (.sub (.var 0 "tape") (.cst (.int 1))) (.bin .fdiv (.ix (.var 0 "tape") (.cst (.int 1))) (.var 1 "many")))
    (.cons (.ret (.some (.var 3 "found")))
    .nil))) .nil)
    (.cons (.ret (.some (.bin .mod (.call "_law_mixed" (.cons (.ix (.var 0 "tape") (.cst (.int 2))) (.cons (.ix (.var 0 "tape") (.cst (.int 3))) .nil))) (.var 1 "many"))))
    .nil))))⟩
def d__law_large : Df := ⟨["tape", "many"], ["tape", "many", "found", "size"],
    (.cons (.asg (.nam 2 "found") (.cst (.int 0)))
    (.cons (.asg (.nam 3 "size") (.cst (.int 1)))
    (.cons (.whl (.cmp .lt (.var 3 "size") (.var 1 "many")) (.cons (.asg (.nam 2 "found") (.bin .add (.bin .mul (.var 2 "found") (.bin .pow (.cst (.int 10)) (.cst (.int 6)))) (.call "_law_take" (.cons (.var 0 "tape") (.cons (.bin .pow (.cst (.int 10)) (.cst (.int 6))) .nil)))))
    (.cons (.asg (.nam 3 "size") (.bin .mul (.var 3 "size") (.bin .pow (.cst (.int 10)) (.cst (.int 6)))))
    .nil)))
    (.cons (.ret (.some (.bin .mod (.var 2 "found") (.var 1 "many"))))
    .nil))))⟩
def d__law_places : Df := ⟨["tape", "many"], ["tape", "many", "places", "at", "brim", "deep", "room", "price"],
    (.cons (.asg (.nam 2 "places") (.lst (.cons (.tup (.cons (.cst (.str "end")) .nil)) .nil)))
    (.cons (.fr [("at", 3)] (.rng (.cons (.var 1 "many") .nil)) (.cons (.ite (.band (.cmp .eq (.ix (.var 2 "places") (.neg (.cst (.int 1)))) (.tup (.cons (.cst (.str "chamber")) .nil))) (.band (.cmp .lt (.var 3 "at") (.bin .sub (.var 1 "many") (.cst (.int 1)))) (.one (.cmp .gt (.call "_law_take" (.cons (.var 0 "tape") (.cons (.cst (.int 3)) .nil))) (.cst (.int 0)))))) (.cons (.asg (.nam 4 "brim") (.bin .add (.cst (.int 1)) (.call "_law_take" (.cons (.var 0 "tape") (.cons (.cst (.int 9)) .nil)))))
    (.cons (.asg (.nam 5 "deep") (.call "_law_take" (.cons (.var 0 "tape") (.cons (.bin .add (.var 4 "brim") (.cst (.int 1))) .nil))))
    (.cons (.asg (.nam 6 "room") (.bin .add (.cst (.int 1)) (.call "_law_take" (.cons (.var 0 "tape") (.cons (.cst (.int 4)) .nil)))))
    (.cons (.asg (.nam 7 "price") (.call "_law_take" (.cons (.var 0 "tape") (.cons (.cst (.int 134)) .nil))))
    (.cons (.exp (.mth .append (.var 2 "places") (.cons (.tup (.cons (.cst (.str "pound")) (.cons (.var 4 "brim") (.cons (.var 5 "deep") (.cons (.var 6 "room") (.cons (.ite (.cmp .lt (.var 7 "price") (.cst (.int 100))) (.var 7 "price") (.cst (.non))) .nil)))))) .nil)))
    .nil))))) (.cons (.exp (.mth .append (.var 2 "places") (.cons (.tup (.cons (.cst (.str "chamber")) .nil)) .nil)))
    .nil))
    .nil))
    (.cons (.ret (.some (.blt .tuple (.cons (.bin .add (.var 2 "places") (.lst (.cons (.tup (.cons (.cst (.str "end")) .nil)) .nil))) .nil))))
    .nil)))⟩
def d__law_canal : Df := ⟨["tape"], ["tape", "many", "places", "top", "hill", "gates", "gate", "up"],
    (.cons (.asg (.nam 1 "many") (.bin .add (.cst (.int 1)) (.call "_law_take" (.cons (.var 0 "tape") (.cons (.ix (.lst (.cons (.cst (.int 1)) (.cons (.cst (.int 4)) (.cons (.cst (.int 11)) .nil)))) (.call "_law_take" (.cons (.var 0 "tape") (.cons (.cst (.int 3)) .nil)))) .nil)))))
    (.cons (.asg (.nam 2 "places") (.call "_law_places" (.cons (.var 0 "tape") (.cons (.var 1 "many") .nil))))
    (.cons (.asg (.nam 3 "top") (.call "_law_take" (.cons (.var 0 "tape") (.cons (.bin .add (.var 1 "many") (.cst (.int 2))) .nil))))
    (.cons (.asg (.nam 4 "hill") (.call "_law_take" (.cons (.var 0 "tape") (.cons (.cst (.int 2)) .nil))))
    (.cons (.asg (.nam 5 "gates") (.lst .nil))
    (.cons (.fr [("gate", 6)] (.rng (.cons (.bin .add (.var 1 "many") (.cst (.int 1))) .nil)) (.cons (.asg (.nam 7 "up") (.cmp .lt (.var 6 "gate") (.var 3 "top")))
    (.cons (.ite (.cmp .eq (.var 4 "hill") (.cst (.int 0))) (.cons (.asg (.nam 7 "up") (.cmp .eq (.call "_law_take" (.cons (.var 0 "tape") (.cons (.cst (.int 2)) .nil))) (.cst (.int 1))))
    .nil) .nil)
    (.cons (.exp (.mth .append (.var 5 "gates") (.cons (.ite (.var 7 "up") (.cst (.str "up")) (.cst (.str "down"))) .nil)))
    .nil))))
    (.cons (.ret (.some (.tup (.cons (.var 2 "places") (.cons (.blt .tuple (.cons (.var 5 "gates") .nil)) .nil)))))
    .nil)))))))⟩
def d__law_stand : Df := ⟨["tape", "canal"], ["tape", "canal", "levels", "rows", "place", "rest", "k", "top", "room", "many", "at"],
    (.cons (.asg (.nam 2 "levels") (.lst .nil))
    (.cons (.asg (.nam 3 "rows") (.lst (.cons (.lst .nil) (.cons (.lst .nil) .nil))))
    (.cons (.fr [("place", 4)] (.seq (.ix (.var 1 "canal") (.cst (.int 0)))) (.cons (.asg (.nam 7 "top") (.blt .int (.cons (.cmp .eq (.ix (.var 4 "place") (.cst (.int 0))) (.cst (.str "chamber"))) .nil)))
    (.cons (.asg (.nam 8 "room") (.blt .int (.cons (.cmp .eq (.ix (.var 4 "place") (.cst (.int 0))) (.cst (.str "chamber"))) .nil)))
    (.cons (.ite (.cmp .eq (.ix (.var 4 "place") (.cst (.int 0))) (.cst (.str "pound"))) (.cons (.asg (.nam 7 "top") (.ix (.var 4 "place") (.cst (.int 1))))
    (.cons (.asg (.nam 8 "room") (.ix (.var 4 "place") (.cst (.int 3))))
    .nil)) .nil)
    (.cons (.exp (.mth .append (.var 2 "levels") (.cons (.call "_law_take" (.cons (.var 0 "tape") (.cons (.bin .add (.var 7 "top") (.cst (.int 1))) .nil))) .nil)))
    (.cons (.asg (.nam 9 "many") (.call "_law_take" (.cons (.var 0 "tape") (.cons (.bin .add (.var 8 "room") (.cst (.int 1))) .nil))))
    (.cons (.exp (.mth .append (.ix (.var 3 "rows") (.cst (.int 0))) (.cons (.call "_law_take" (.cons (.var 0 "tape") (.cons (.bin .add (.var 9 "many") (.cst (.int 1))) .nil))) .nil)))
    (.cons (.exp (.mth .append (.ix (.var 3 "rows") (.cst (.int 1))) (.cons (.bin .sub (.var 9 "many") (.ix (.ix (.var 3 "rows") (.cst (.int 0))) (.neg (.cst (.int 1))))) .nil)))
    .nil))))))))
    (.cons (.asg (.nam 5 "rest") (.bin .sub (.bin .sub (.cst (.int 60)) (.blt .sum (.cons (.ix (.var 3 "rows") (.cst (.int 0))) .nil))) (.blt .sum (.cons (.ix (.var 3 "rows") (.cst (.int 1))) .nil))))
    (.cons (.fr [("k", 6)] (.rng (.cons (.cst (.int 4)) .nil)) (.cons (.asg (.nam 10 "at") (.bin .mul (.bin .mod (.var 6 "k") (.cst (.int 2))) (.bin .sub (.blt .len (.cons (.var 2 "levels") .nil)) (.cst (.int 1)))))
    (.cons (.asg (.sub (.ix (.var 3 "rows") (.bin .fdiv (.var 6 "k") (.cst (.int 2)))) (.var 10 "at")) (.call "_law_take" (.cons (.var 0 "tape") (.cons (.bin .add (.blt .min (.cons (.var 5 "rest") (.cons (.ix (.lst (.cons (.cst (.int 2)) (.cons (.cst (.int 60)) .nil))) (.call "_law_take" (.cons (.var 0 "tape") (.cons (.cst (.int 2)) .nil)))) .nil))) (.cst (.int 1))) .nil))))
    (.cons (.asg (.nam 5 "rest") (.bin .sub (.var 5 "rest") (.ix (.ix (.var 3 "rows") (.bin .fdiv (.var 6 "k") (.cst (.int 2)))) (.var 10 "at"))))
    .nil))))
    (.cons (.ret (.some (.tup (.cons (.blt .tuple (.cons (.var 2 "levels") .nil)) (.cons (.blt .tuple (.cons (.ix (.var 3 "rows") (.cst (.int 0))) .nil)) (.cons (.blt .tuple (.cons (.ix (.var 3 "rows") (.cst (.int 1))) .nil)) .nil))))))
    .nil))))))⟩
def d__law_stand_text : Df := ⟨["stand"], ["stand", "parts", "level", "right", "left"],
    (.cons (.asg (.nam 1 "parts") (.lst .nil))
    (.cons (.fr [("level", 2), ("right", 3), ("left", 4)] (.zip (.cons (.ix (.var 0 "stand") (.cst (.int 0))) (.cons (.ix (.var 0 "stand") (.cst (.int 1))) (.cons (.ix (.var 0 "stand") (.cst (.int 2))) .nil)))) (.cons (.exp (.mth .append (.var 1 "parts") (.cons (.bin .add (.bin .add (.bin .add (.bin .add (.blt .str (.cons (.var 2 "level") .nil)) (.cst (.str ":"))) (.blt .str (.cons (.var 3 "right") .nil))) (.cst (.str ":"))) (.blt .str (.cons (.var 4 "left") .nil))) .nil)))
    .nil))
    (.cons (.ret (.some (.mth .join (.cst (.str " ")) (.cons (.var 1 "parts") .nil))))
    .nil)))⟩
def d_law : Df := ⟨["script"], ["script", "tape", "canal", "stand", "found", "word", "number"],
    (.cons (.asg (.nam 1 "tape") (.call "_law_tape" (.cons (.var 0 "script") .nil)))
    (.cons (.asg (.nam 2 "canal") (.call "_law_canal" (.cons (.var 1 "tape") .nil)))
    (.cons (.asg (.nam 3 "stand") (.call "_law_stand" (.cons (.var 1 "tape") (.cons (.var 2 "canal") .nil))))
    (.cons (.asg (.nam 4 "found") (.call "stand_text" (.cons (.var 3 "stand") .nil)))
    (.cons (.ite (.bor (.bnot (.isi (.var 4 "found") "str")) (.one (.cmp .ne (.var 4 "found") (.call "_law_stand_text" (.cons (.var 3 "stand") .nil))))) (.cons (.ret (.some (.cst (.bl false))))
    .nil) .nil)
    (.cons (.asg (.nam 5 "word") (.ix (.lst (.cons (.cst (.str "let")) (.cons (.cst (.str "feed")) (.cons (.cst (.str "right")) (.cons (.cst (.str "left")) .nil))))) (.call "_law_take" (.cons (.var 1 "tape") (.cons (.cst (.int 4)) .nil)))))
    (.cons (.asg (.nam 6 "number") (.bin .mul (.call "_law_large" (.cons (.var 1 "tape") (.cons (.ix (.lst (.cons (.cst (.int 20)) (.cons (.bin .pow (.cst (.int 10)) (.cst (.int 60))) .nil))) (.call "_law_take" (.cons (.var 1 "tape") (.cons (.cst (.int 2)) .nil)))) .nil))) (.bin .sub (.cst (.int 1)) (.bin .mul (.cst (.int 2)) (.call "_law_take" (.cons (.var 1 "tape") (.cons (.cst (.int 2)) .nil)))))))
    (.cons (.asg (.nam 4 "found") (.call "deed_text" (.cons (.tup (.cons (.var 5 "word") (.cons (.var 6 "number") .nil))) .nil)))
    (.cons (.ret (.some (.band (.isi (.var 4 "found") "str") (.one (.cmp .eq (.var 4 "found") (.bin .add (.bin .add (.var 5 "word") (.cst (.str " "))) (.blt .str (.cons (.var 6 "number") .nil))))))))
    .nil)))))))))⟩
def Tb : Tab := [("stand_text", d_stand_text), ("deed_text", d_deed_text), ("_law_mixed", d__law_mixed), ("_law_tape", d__law_tape), ("_law_take", d__law_take), ("_law_large", d__law_large), ("_law_places", d__law_places), ("_law_canal", d__law_canal), ("_law_stand", d__law_stand), ("_law_stand_text", d__law_stand_text), ("law", d_law)]
def bls : List Str := ["int", "isinstance", "len", "list", "min", "range", "str", "sum", "tuple", "zip"]
def Tn : Nm := ⟨fun f => (Tb.lookup f).map (·.ps), bls⟩
def gl : GL := fun _ => none
theorem tb_stand_text : Tb.lookup ("stand_text" : Str) = some d_stand_text := rfl
theorem tb_deed_text : Tb.lookup ("deed_text" : Str) = some d_deed_text := rfl
theorem tb__law_mixed : Tb.lookup ("_law_mixed" : Str) = some d__law_mixed := rfl
theorem tb__law_tape : Tb.lookup ("_law_tape" : Str) = some d__law_tape := rfl
theorem tb__law_take : Tb.lookup ("_law_take" : Str) = some d__law_take := rfl
theorem tb__law_large : Tb.lookup ("_law_large" : Str) = some d__law_large := rfl
theorem tb__law_places : Tb.lookup ("_law_places" : Str) = some d__law_places := rfl
theorem tb__law_canal : Tb.lookup ("_law_canal" : Str) = some d__law_canal := rfl
theorem tb__law_stand : Tb.lookup ("_law_stand" : Str) = some d__law_stand := rfl
theorem tb__law_stand_text : Tb.lookup ("_law_stand_text" : Str) = some d__law_stand_text := rfl
theorem tb_law : Tb.lookup ("law" : Str) = some d_law := rfl
end K80

set_option Elab.async false
set_option linter.all false
set_option maxRecDepth 100000
set_option maxHeartbeats 1000000
namespace Swl
open PySem PySem.Spec PyProof.Rows L2 Sw K80
/-- the tape lies at t, within the first l places -/
def Tp (t l : Nat) (T : Sto) : Prop := T.length = l ∧ ∃ (c : Nat) (cells : List Int) (a b k : Int), c ≠ t ∧ t < l ∧ c < l ∧ T[t]? = some (.lst [.ref c, .int a, .int b, .int k]) ∧ T[c]? = some (.lst (cells.map D.int))
section
variable {Tb : Tab} {gl : GL}
theorem mixed_w (L : Tb.lookup ("_law_mixed" : Str) = some d__law_mixed) {n : Nat} {i j : Int} {S : Sto} {Q : D → Sto → Prop} {X : XR} (q : ∀ v, Q (.int v) S) :
    (callN Tb gl (n + 1) ("_law_mixed" : Str) [.int i, .int j] S).wp Q X := by
  rw [callW (σ := [some (.int i), some (.int j), none]) L rfl rfl]
  simp only [d__law_mixed, wE_var, wE_cst, wE_glb, wE_bin, wE_neg, wE_cmp, wE_chn, wE_band, wE_bor, wE_not, wE_ite, wE_tup, wE_lst, wE_ix, wE_slc, wE_call, wE_blt, wE_isi, wE_mth, wE_one, wE_comp, wE_fst, wL_nil, wL_cons, wO_none, wO_some, wC_none, wC_some, wF_nil, wF_cons, wI_seq, wI_rng, wI_zip, wI_enm, wB_add, wB_adds, wB_addt, wB_sub, wB_mul, wB_fdv, wB_mod, wB_pow, wC_lt, wC_le, wC_gt, wC_ge, wC_eq, wC_ne, wC_is, wC_isnot, eqD_int, eqD_str, eqD_bl, wI_ref, wI_tup, wS_exp, wS_nam, wS_sub, wS_tup, wS_par, wS_ret0, wS_ret, wS_ite, wS_for, wS_whl, wS_pass, wS_dead, wT_nil, wT_cons, onB_bl, onV_some, onO_some, onI_int, onZ_bl, List.getElem?_cons_zero, List.getElem?_cons_succ, List.set_cons_zero, List.set_cons_succ, decide_eq_true_eq, wF_len, wF_lent, wF_lens, wF_lst, wF_tup, wF_sum, wF_min, wF_max, wF_inti, wF_intb, wF_str, wM_app, wM_popA, wM_join, wM_split, rcv_app, rcv_popA, rcv_join, rcv_split, wR_1, wR_2, wZ_3, wZ_2, walk_tup, walk_fl, wU_fl, wT_strs, at0, at1, at2, at3, at4, atL, items_tup, items_fl, true_and, Option.isSome_some, List.length_set, ixn_4_0, ixn_4_1, ixn_4_2, ixn_4_3, List.length_cons, List.length_nil, Nat.zero_add, Nat.reduceAdd, Nat.reduceLT, Nat.reduceLeDiff, ne_eq, Nat.reduceEqDiff, Int.reducePow, Int.reduceToNat, Int.reduceEq, Int.reduceLT, Int.reduceLE, Int.reduceNeg, not_false_eq_true, reduceIte, Bool.false_eq_true, List.map_cons, List.map_nil, List.eraseIdx_cons_zero, not_true_eq_false, Bool.not_true, Bool.not_false, List.length_append, List.append_assoc, List.cons_append, List.nil_append, List.append_nil, items_W, items_W0, items_c0, items_c1, items_c2, items_c3, items_c4, lst_W, lst_W0, lst_c0, lst_c1, lst_c2, lst_c3, set_W, wB_addl, Nat.add_assoc, items_cs, items_last, wI_strW, wC_in, wC_notin, opIn_sign, walk_str, wF_intS, wT_tt, wT_tl, wT_it, wT_il, wT_is, wT_ii, wT_ib, wF_all, isNon_non, isNon_int, isNon_ref, isNon_tup, isNon_str, items_V, lst_V, set_V, bls_repW, all_repW, lst_last, set_last, walk_c0, strs_mapD, wp_quiet, bind3, bind2, bindU2, bindU3, atLm, map_snoc_int, ints_mapD, items_ss, set_W0, Option.map_some, Nat.add_zero]
  exact ⟨bigL (by decide), bigR (by decide), bigM (by decide) (by decide), bigR (by decide), bigL (by decide), by decide, q _⟩
theorem take_w (L : Tb.lookup ("_law_take" : Str) = some d__law_take) (L2 : Tb.lookup ("_law_mixed" : Str) = some d__law_mixed) {n t l : Nat} {m : Int} {T U : Sto} (h : Tp t l T) (h1 : 0 < m) (h2 : m < 1073741824) {Q : D → Sto → Prop} {X : XR}
    (q : ∀ v T', 0 ≤ v → v < m → Tp t l T' → Q (.int v) (T' ++ U)) : (callN Tb gl (n + 2) ("_law_take" : Str) [.ref t, .int m] (T ++ U)).wp Q X := by
  obtain ⟨rfl, c, cells, a, b, k, hct, ht, hc, e1, e2⟩ := h
  have htc := hct.symm
  have g1 := items_ref e1
  have g2 := lst_ref e1
  have g3 := items_ref e2
  have g4 := lst_ref e2
  have hm : m ≠ 0 := by omega
  have fin : ∀ (v : Int) (cells' : List Int) (a' : Int) (T' : Sto), T'.length = T.length → T'[t]? = some (.lst [.ref c, .int a', .int b, .int (k + 1)]) → T'[c]? = some (.lst (cells'.map D.int)) → Q (.int (v.fmod m)) (T' ++ U) := fun v cells' a' T' hl h3 h4 =>
    q _ _ (fmod_in h1).1 (fmod_in h1).2 ⟨hl, c, cells', a', b, k + 1, hct, ht, hc, h3, h4⟩
  have hmm : m.natAbs < 1073741824 := by omega
  have z1 : ∀ (T1 : Sto) (o : O), T1.length = T.length → (T1.set t o)[t]? = some o := fun T1 o e => List.getElem?_set_self (by omega)
  have z2 : ∀ (T1 : Sto) (o : O), T1.length = T.length → (T1.set c o)[c]? = some o := fun T1 o e => List.getElem?_set_self (by omega)
  have z3 : ∀ (T1 : Sto) (o : O), (T1.set c o)[t]? = T1[t]? := fun T1 o => List.getElem?_set_ne hct
  have z4 : ∀ (T1 : Sto) (o : O), (T1.set t o)[c]? = T1[c]? := fun T1 o => List.getElem?_set_ne htc
  rw [callW (σ := [some (.ref t), some (.int m), none, none]) L rfl rfl]
  simp only [d__law_take, wE_var, wE_cst, wE_glb, wE_bin, wE_neg, wE_cmp, wE_chn, wE_band, wE_bor, wE_not, wE_ite, wE_tup, wE_lst, wE_ix, wE_slc, wE_call, wE_blt, wE_isi, wE_mth, wE_one, wE_comp, wE_fst, wL_nil, wL_cons, wO_none, wO_some, wC_none, wC_some, wF_nil, wF_cons, wI_seq, wI_rng, wI_zip, wI_enm, wB_add, wB_adds, wB_addt, wB_sub, wB_mul, wB_fdv, wB_mod, wB_pow, wC_lt, wC_le, wC_gt, wC_ge, wC_eq, wC_ne, wC_is, wC_isnot, eqD_int, eqD_str, eqD_bl, wI_ref, wI_tup, wS_exp, wS_nam, wS_sub, wS_tup, wS_par, wS_ret0, wS_ret, wS_ite, wS_for, wS_whl, wS_pass, wS_dead, wT_nil, wT_cons, onB_bl, onV_some, onO_some, onI_int, onZ_bl, List.getElem?_cons_zero, List.getElem?_cons_succ, List.set_cons_zero, List.set_cons_succ, decide_eq_true_eq, wF_len, wF_lent, wF_lens, wF_lst, wF_tup, wF_sum, wF_min, wF_max, wF_inti, wF_intb, wF_str, wM_app, wM_popA, wM_join, wM_split, rcv_app, rcv_popA, rcv_join, rcv_split, wR_1, wR_2, wZ_3, wZ_2, walk_tup, walk_fl, wU_fl, wT_strs, at0, at1, at2, at3, at4, atL, items_tup, items_fl, true_and, Option.isSome_some, List.length_set, ixn_4_0, ixn_4_1, ixn_4_2, ixn_4_3, List.length_cons, List.length_nil, Nat.zero_add, Nat.reduceAdd, Nat.reduceLT, Nat.reduceLeDiff, ne_eq, Nat.reduceEqDiff, Int.reducePow, Int.reduceToNat, Int.reduceEq, Int.reduceLT, Int.reduceLE, Int.reduceNeg, not_false_eq_true, reduceIte, Bool.false_eq_true, List.map_cons, List.map_nil, List.eraseIdx_cons_zero, not_true_eq_false, Bool.not_true, Bool.not_false, List.length_append, List.append_assoc, List.cons_append, List.nil_append, List.append_nil, items_W, items_W0, items_c0, items_c1, items_c2, items_c3, items_c4, lst_W, lst_W0, lst_c0, lst_c1, lst_c2, lst_c3, set_W, wB_addl, Nat.add_assoc, items_cs, items_last, wI_strW, wC_in, wC_notin, opIn_sign, walk_str, wF_intS, wT_tt, wT_tl, wT_it, wT_il, wT_is, wT_ii, wT_ib, wF_all, isNon_non, isNon_int, isNon_ref, isNon_tup, isNon_str, items_V, lst_V, set_V, bls_repW, all_repW, lst_last, set_last, walk_c0, strs_mapD, wp_quiet, bind3, bind2, bindU2, bindU3, atLm, map_snoc_int, ints_mapD, items_ss, set_W0, Option.map_some, Nat.add_zero, items_T, lst_T, setT, items_ss, lst_ss, items_sn, lst_sn, ht, hc, g1, g2, g3, g4, hct, htc, hm]
  have rest : if 0 < a then m.natAbs < 1073741824 ∧ Q (D.int (a.fmod m)) ((List.set T t (O.lst [D.ref c, D.int a, D.int b, D.int (k + 1)])).set t (O.lst [D.ref c, D.int (a.fdiv m), D.int b, D.int (k + 1)]) ++ U)
      else (callN Tb gl (n + 1) ("_law_mixed" : Str) [D.int b, D.int (k + 1)] (List.set T t (O.lst [D.ref c, D.int a, D.int b, D.int (k + 1)]) ++ U)).wp (fun x S => (opB Bop.mod x (D.int m) S).wp Q fun c fs S => X c fs S) fun c fs S => X c fs S := by
    refine ifI (fun _ => ⟨hmm, fin _ cells _ _ (by simp) (z1 _ _ (by simp)) (by rw [z4, z4]; exact e2)⟩) fun _ => mixed_w L2 fun v => ?_
    rw [wB_mod]
    exact ⟨hm, fin _ cells _ _ (by simp) (z1 _ _ (by simp)) (by rw [z4]; exact e2)⟩
  refine ifI (fun ha => ?_) fun _ => rest
  cases cells with
  | nil =>
    refine ifI (fun z => ?_) fun _ => rest
    simp at z
  | cons x xs =>
    refine ifI (fun z => ?_) fun z => ?_
    · rw [seqIx0 (by simp)]
      simp only [wE_var, wE_cst, wE_glb, wE_bin, wE_neg, wE_cmp, wE_chn, wE_band, wE_bor, wE_not, wE_ite, wE_tup, wE_lst, wE_ix, wE_slc, wE_call, wE_blt, wE_isi, wE_mth, wE_one, wE_comp, wE_fst, wL_nil, wL_cons, wO_none, wO_some, wC_none, wC_some, wF_nil, wF_cons, wI_seq, wI_rng, wI_zip, wI_enm, wB_add, wB_adds, wB_addt, wB_sub, wB_mul, wB_fdv, wB_mod, wB_pow, wC_lt, wC_le, wC_gt, wC_ge, wC_eq, wC_ne, wC_is, wC_isnot, eqD_int, eqD_str, eqD_bl, wI_ref, wI_tup, wS_exp, wS_nam, wS_sub, wS_tup, wS_par, wS_ret0, wS_ret, wS_ite, wS_for, wS_whl, wS_pass, wS_dead, wT_nil, wT_cons, onB_bl, onV_some, onO_some, onI_int, onZ_bl, List.getElem?_cons_zero, List.getElem?_cons_succ, List.set_cons_zero, List.set_cons_succ, decide_eq_true_eq, wF_len, wF_lent, wF_lens, wF_lst, wF_tup, wF_sum, wF_min, wF_max, wF_inti, wF_intb, wF_str, wM_app, wM_popA, wM_join, wM_split, rcv_app, rcv_popA, rcv_join, rcv_split, wR_1, wR_2, wZ_3, wZ_2, walk_tup, walk_fl, wU_fl, wT_strs, at0, at1, at2, at3, at4, atL, items_tup, items_fl, true_and, Option.isSome_some, List.length_set, ixn_4_0, ixn_4_1, ixn_4_2, ixn_4_3, List.length_cons, List.length_nil, Nat.zero_add, Nat.reduceAdd, Nat.reduceLT, Nat.reduceLeDiff, ne_eq, Nat.reduceEqDiff, Int.reducePow, Int.reduceToNat, Int.reduceEq, Int.reduceLT, Int.reduceLE, Int.reduceNeg, not_false_eq_true, reduceIte, Bool.false_eq_true, List.map_cons, List.map_nil, List.eraseIdx_cons_zero, not_true_eq_false, Bool.not_true, Bool.not_false, List.length_append, List.append_assoc, List.cons_append, List.nil_append, List.append_nil, items_W, items_W0, items_c0, items_c1, items_c2, items_c3, items_c4, lst_W, lst_W0, lst_c0, lst_c1, lst_c2, lst_c3, set_W, wB_addl, Nat.add_assoc, items_cs, items_last, wI_strW, wC_in, wC_notin, opIn_sign, walk_str, wF_intS, wT_tt, wT_tl, wT_it, wT_il, wT_is, wT_ii, wT_ib, wF_all, isNon_non, isNon_int, isNon_ref, isNon_tup, isNon_str, items_V, lst_V, set_V, bls_repW, all_repW, lst_last, set_last, walk_c0, strs_mapD, wp_quiet, bind3, bind2, bindU2, bindU3, atLm, map_snoc_int, ints_mapD, items_ss, set_W0, Option.map_some, Nat.add_zero, items_T, lst_T, setT, items_ss, lst_ss, items_sn, lst_sn, ht, hc, g1, g2, g3, g4, hct, htc, hm]
      refine ⟨by decide, ifI (fun _ => mixed_w L2 fun v => ?_) fun z => ?_⟩
      · rw [wB_mod]
        exact ⟨hm, fin _ xs _ _ (by simp) (by rw [z3]; exact z1 _ _ (by simp)) (z2 _ _ (by simp))⟩
      · refine ifI (fun _ => ⟨hmm, fin _ xs _ _ (by simp) (z1 _ _ (by simp)) (by rw [z4, z4]; exact z2 _ _ (by simp))⟩) fun _ => by omega
    · simp at z
end
end Swl

set_option Elab.async false
set_option linter.all false
set_option maxRecDepth 100000
set_option maxHeartbeats 1000000
namespace Swl
open PySem PySem.Spec PyProof.Rows L2 Sw K80
structure Lk (Tb : Tab) : Prop where
  mixed : Tb.lookup ("_law_mixed" : Str) = some d__law_mixed
  take : Tb.lookup ("_law_take" : Str) = some d__law_take
section
variable {Tb : Tab} {gl : GL}
theorem take_q (L : Lk Tb) {n t l : Nat} {m : Int} {T U : Sto} (h : Tp t l T) (h1 : 0 < m) (h2 : m < 1073741824) {Q : D → Sto → Prop} {X : XR}
    (q : ∀ v T', 0 ≤ v → v < m → Tp t l T' → Q (.int v) (T' ++ U)) : (callN Tb gl (n + 2) ("_law_take" : Str) [.ref t, .int m] (T ++ U)).wp Q X := take_w L.take L.mixed h h1 h2 q
theorem large_w (L : Lk Tb) (L3 : Tb.lookup ("_law_large" : Str) = some d__law_large) {n t l : Nat} {m : Int} {T U : Sto} (h : Tp t l T) (h1 : 0 < m) {Q : D → Sto → Prop} {X : XR}
    (q : ∀ v T', 0 ≤ v → v < m → Tp t l T' → Q (.int v) (T' ++ U)) : (callN Tb gl (n + 3) ("_law_large" : Str) [.ref t, .int m] (T ++ U)).wp Q X := by
  rw [callW (σ := [some (.ref t), some (.int m), none, none]) L3 rfl rfl]
  simp only [d__law_large, wE_var, wE_cst, wE_glb, wE_bin, wE_neg, wE_cmp, wE_chn, wE_band, wE_bor, wE_not, wE_ite, wE_tup, wE_lst, wE_ix, wE_slc, wE_call, wE_blt, wE_isi, wE_mth, wE_one, wE_comp, wE_fst, wL_nil, wL_cons, wO_none, wO_some, wC_none, wC_some, wF_nil, wF_cons, wI_seq, wI_rng, wI_zip, wI_enm, wB_add, wB_adds, wB_addt, wB_sub, wB_mul, wB_fdv, wB_mod, wB_pow, wC_lt, wC_le, wC_gt, wC_ge, wC_eq, wC_ne, wC_is, wC_isnot, eqD_int, eqD_str, eqD_bl, wI_ref, wI_tup, wS_exp, wS_nam, wS_sub, wS_tup, wS_par, wS_ret0, wS_ret, wS_ite, wS_for, wS_whl, wS_pass, wS_dead, wT_nil, wT_cons, onB_bl, onV_some, onO_some, onI_int, onZ_bl, List.getElem?_cons_zero, List.getElem?_cons_succ, List.set_cons_zero, List.set_cons_succ, decide_eq_true_eq, wF_len, wF_lent, wF_lens, wF_lst, wF_tup, wF_sum, wF_min, wF_max, wF_inti, wF_intb, wF_str, wM_app, wM_popA, wM_join, wM_split, rcv_app, rcv_popA, rcv_join, rcv_split, wR_1, wR_2, wZ_3, wZ_2, walk_tup, walk_fl, wU_fl, wT_strs, at0, at1, at2, at3, at4, atL, items_tup, items_fl, true_and, Option.isSome_some, List.length_set, ixn_4_0, ixn_4_1, ixn_4_2, ixn_4_3, List.length_cons, List.length_nil, Nat.zero_add, Nat.reduceAdd, Nat.reduceLT, Nat.reduceLeDiff, ne_eq, Nat.reduceEqDiff, Int.reducePow, Int.reduceToNat, Int.reduceEq, Int.reduceLT, Int.reduceLE, Int.reduceNeg, not_false_eq_true, reduceIte, Bool.false_eq_true, List.map_cons, List.map_nil, List.eraseIdx_cons_zero, not_true_eq_false, Bool.not_true, Bool.not_false, List.length_append, List.append_assoc, List.cons_append, List.nil_append, List.append_nil, items_W, items_W0, items_c0, items_c1, items_c2, items_c3, items_c4, lst_W, lst_W0, lst_c0, lst_c1, lst_c2, lst_c3, set_W, wB_addl, Nat.add_assoc, items_cs, items_last, wI_strW, wC_in, wC_notin, opIn_sign, walk_str, wF_intS, wT_tt, wT_tl, wT_it, wT_il, wT_is, wT_ii, wT_ib, wF_all, isNon_non, isNon_int, isNon_ref, isNon_tup, isNon_str, items_V, lst_V, set_V, bls_repW, all_repW, lst_last, set_last, walk_c0, strs_mapD, wp_quiet, bind3, bind2, bindU2, bindU3, atLm, map_snoc_int, ints_mapD, items_ss, set_W0, Option.map_some, Nat.add_zero]
  refine whlW (fun σ S => ∃ f s T', σ = [some (.ref t), some (.int m), some (.int f), some (.int s)] ∧ S = T' ++ U ∧ Tp t l T' ∧ 1 ≤ s)
    (fun (σ : Sl) (S : Sto) => match σ[3]? with
      | some (some (D.int s)) => (m - s).toNat
      | _ => 0) ?_ _ _ _ (Nat.le_refl _) ⟨0, 1, T, rfl, rfl, h, by omega⟩
  rintro σ S ⟨f, s, T', rfl, rfl, hT, hs⟩
  simp only [wE_var, wE_cst, wE_glb, wE_bin, wE_neg, wE_cmp, wE_chn, wE_band, wE_bor, wE_not, wE_ite, wE_tup, wE_lst, wE_ix, wE_slc, wE_call, wE_blt, wE_isi, wE_mth, wE_one, wE_comp, wE_fst, wL_nil, wL_cons, wO_none, wO_some, wC_none, wC_some, wF_nil, wF_cons, wI_seq, wI_rng, wI_zip, wI_enm, wB_add, wB_adds, wB_addt, wB_sub, wB_mul, wB_fdv, wB_mod, wB_pow, wC_lt, wC_le, wC_gt, wC_ge, wC_eq, wC_ne, wC_is, wC_isnot, eqD_int, eqD_str, eqD_bl, wI_ref, wI_tup, wS_exp, wS_nam, wS_sub, wS_tup, wS_par, wS_ret0, wS_ret, wS_ite, wS_for, wS_whl, wS_pass, wS_dead, wT_nil, wT_cons, onB_bl, onV_some, onO_some, onI_int, onZ_bl, List.getElem?_cons_zero, List.getElem?_cons_succ, List.set_cons_zero, List.set_cons_succ, decide_eq_true_eq, wF_len, wF_lent, wF_lens, wF_lst, wF_tup, wF_sum, wF_min, wF_max, wF_inti, wF_intb, wF_str, wM_app, wM_popA, wM_join, wM_split, rcv_app, rcv_popA, rcv_join, rcv_split, wR_1, wR_2, wZ_3, wZ_2, walk_tup, walk_fl, wU_fl, wT_strs, at0, at1, at2, at3, at4, atL, items_tup, items_fl, true_and, Option.isSome_some, List.length_set, ixn_4_0, ixn_4_1, ixn_4_2, ixn_4_3, List.length_cons, List.length_nil, Nat.zero_add, Nat.reduceAdd, Nat.reduceLT, Nat.reduceLeDiff, ne_eq, Nat.reduceEqDiff, Int.reducePow, Int.reduceToNat, Int.reduceEq, Int.reduceLT, Int.reduceLE, Int.reduceNeg, not_false_eq_true, reduceIte, Bool.false_eq_true, List.map_cons, List.map_nil, List.eraseIdx_cons_zero, not_true_eq_false, Bool.not_true, Bool.not_false, List.length_append, List.append_assoc, List.cons_append, List.nil_append, List.append_nil, items_W, items_W0, items_c0, items_c1, items_c2, items_c3, items_c4, lst_W, lst_W0, lst_c0, lst_c1, lst_c2, lst_c3, set_W, wB_addl, Nat.add_assoc, items_cs, items_last, wI_strW, wC_in, wC_notin, opIn_sign, walk_str, wF_intS, wT_tt, wT_tl, wT_it, wT_il, wT_is, wT_ii, wT_ib, wF_all, isNon_non, isNon_int, isNon_ref, isNon_tup, isNon_str, items_V, lst_V, set_V, bls_repW, all_repW, lst_last, set_last, walk_c0, strs_mapD, wp_quiet, bind3, bind2, bindU2, bindU3, atLm, map_snoc_int, ints_mapD, items_ss, set_W0, Option.map_some, Nat.add_zero]
  refine ifI (fun hlt => ⟨by decide, bigR (by decide), by decide, take_q (m := 1000000) L hT (by decide) (by decide) fun v T2 _ _ h2 => ?_⟩) fun _ => ⟨by omega, q _ _ (fmod_in h1).1 (fmod_in h1).2 hT⟩
  simp only [wE_var, wE_cst, wE_glb, wE_bin, wE_neg, wE_cmp, wE_chn, wE_band, wE_bor, wE_not, wE_ite, wE_tup, wE_lst, wE_ix, wE_slc, wE_call, wE_blt, wE_isi, wE_mth, wE_one, wE_comp, wE_fst, wL_nil, wL_cons, wO_none, wO_some, wC_none, wC_some, wF_nil, wF_cons, wI_seq, wI_rng, wI_zip, wI_enm, wB_add, wB_adds, wB_addt, wB_sub, wB_mul, wB_fdv, wB_mod, wB_pow, wC_lt, wC_le, wC_gt, wC_ge, wC_eq, wC_ne, wC_is, wC_isnot, eqD_int, eqD_str, eqD_bl, wI_ref, wI_tup, wS_exp, wS_nam, wS_sub, wS_tup, wS_par, wS_ret0, wS_ret, wS_ite, wS_for, wS_whl, wS_pass, wS_dead, wT_nil, wT_cons, onB_bl, onV_some, onO_some, onI_int, onZ_bl, List.getElem?_cons_zero, List.getElem?_cons_succ, List.set_cons_zero, List.set_cons_succ, decide_eq_true_eq, wF_len, wF_lent, wF_lens, wF_lst, wF_tup, wF_sum, wF_min, wF_max, wF_inti, wF_intb, wF_str, wM_app, wM_popA, wM_join, wM_split, rcv_app, rcv_popA, rcv_join, rcv_split, wR_1, wR_2, wZ_3, wZ_2, walk_tup, walk_fl, wU_fl, wT_strs, at0, at1, at2, at3, at4, atL, items_tup, items_fl, true_and, Option.isSome_some, List.length_set, ixn_4_0, ixn_4_1, ixn_4_2, ixn_4_3, List.length_cons, List.length_nil, Nat.zero_add, Nat.reduceAdd, Nat.reduceLT, Nat.reduceLeDiff, ne_eq, Nat.reduceEqDiff, Int.reducePow, Int.reduceToNat, Int.reduceEq, Int.reduceLT, Int.reduceLE, Int.reduceNeg, not_false_eq_true, reduceIte, Bool.false_eq_true, List.map_cons, List.map_nil, List.eraseIdx_cons_zero, not_true_eq_false, Bool.not_true, Bool.not_false, List.length_append, List.append_assoc, List.cons_append, List.nil_append, List.append_nil, items_W, items_W0, items_c0, items_c1, items_c2, items_c3, items_c4, lst_W, lst_W0, lst_c0, lst_c1, lst_c2, lst_c3, set_W, wB_addl, Nat.add_assoc, items_cs, items_last, wI_strW, wC_in, wC_notin, opIn_sign, walk_str, wF_intS, wT_tt, wT_tl, wT_it, wT_il, wT_is, wT_ii, wT_ib, wF_all, isNon_non, isNon_int, isNon_ref, isNon_tup, isNon_str, items_V, lst_V, set_V, bls_repW, all_repW, lst_last, set_last, walk_c0, strs_mapD, wp_quiet, bind3, bind2, bindU2, bindU3, atLm, map_snoc_int, ints_mapD, items_ss, set_W0, Option.map_some, Nat.add_zero]
  exact ⟨by decide, bigR (by decide), ⟨_, _, T2, rfl, rfl, h2, by omega⟩, by omega⟩
/-- a place of a canal -/
inductive Pl : D → Prop where
  | nd : Pl (.tup [.str ("end" : Str)])
  | ch : Pl (.tup [.str ("chamber" : Str)])
  | po (b d r : Int) (p : D) : 1 ≤ b → b ≤ 9 → 0 ≤ d → d ≤ b → 1 ≤ r → r ≤ 4 → (p = .non ∨ ∃ i, p = .int i ∧ 0 ≤ i ∧ i < 100) → Pl (.tup [.str ("pound" : Str), .int b, .int d, .int r, p])
theorem Pl.eqC {S : Sto} {d : D} (h : Pl d) : ∃ b, eqD S d (.tup [.str ("chamber" : Str)]) = some b := by
  cases h with
  | nd => exact ⟨_, by simp only [eqD, eqs, pyd, allS, Option.map_some]; exact if_pos (by decide +kernel)⟩
  | ch => exact ⟨_, by simp only [eqD, eqs, pyd, allS, Option.map_some]; exact if_pos (by decide +kernel)⟩
  | po b d r p h1 h2 h3 h4 h5 h6 h7 =>
    rcases h7 with rfl | ⟨i, rfl, h7, h8⟩
    · exact ⟨_, by simp only [eqD, eqs, pyd, allS, Option.map_some]; exact if_pos (by simp [SeqAt.shaped, PyData.canLay0, PyData.canLayAll0, PyData.depth, PyData.depthAll]; decide +kernel)⟩
    · exact ⟨_, by simp only [eqD, eqs, pyd, allS, Option.map_some]; exact if_pos (by simp [SeqAt.shaped, PyData.canLay0, PyData.canLayAll0, PyData.depth, PyData.depthAll]; decide +kernel)⟩
theorem rngD_get {lo : Int} {n i : Nat} {d : D} (h : (rngD lo n)[i]? = some d) : i < n ∧ d = .int (lo + i) := by
  unfold rngD at h
  rw [List.getElem?_map, Option.map_eq_some_iff] at h
  obtain ⟨a, h1, rfl⟩ := h
  have h2 := List.getElem?_eq_some_iff.1 h1
  obtain ⟨h3, h4⟩ := h2
  rw [List.length_range] at h3
  rw [List.getElem_range] at h4
  exact ⟨h3, by rw [h4]⟩
theorem rngD_len {lo : Int} {n : Nat} : (rngD lo n).length = n := by
  unfold rngD
  rw [List.length_map, List.length_range]
theorem bind1 {x : Str} {i : Nat} {d : D} {σ : Sl} : bindT [(x, i)] d σ = some (σ.set i (some d)) := rfl
abbrev E0 : D := .tup [.str ("end" : Str)]
theorem places_w (L : Lk Tb) (L3 : Tb.lookup ("_law_places" : Str) = some d__law_places) {n t l : Nat} {m : Int} {T U : Sto} (h : Tp t l T) (h1 : 0 ≤ m) (h2 : m ≤ 11) {Q : D → Sto → Prop} {X : XR}
    (q : ∀ (ps : List D) T' G, (∀ p ∈ ps, Pl p) → (ps.length : Int) = m + 2 → ps[0]? = some E0 → ps[ps.length - 1]? = some E0 → Tp t l T' → Q (.tup ps) (T' ++ (U ++ G))) : (callN Tb gl (n + 3) ("_law_places" : Str) [.ref t, .int m] (T ++ U)).wp Q X := by
  rw [callW (σ := [some (.ref t), some (.int m), none, none, none, none, none, none]) L3 rfl rfl]
  have hl := h.1
  simp only [d__law_places, wE_var, wE_cst, wE_glb, wE_bin, wE_neg, wE_cmp, wE_chn, wE_band, wE_bor, wE_not, wE_ite, wE_tup, wE_lst, wE_ix, wE_slc, wE_call, wE_blt, wE_isi, wE_mth, wE_one, wE_comp, wE_fst, wL_nil, wL_cons, wO_none, wO_some, wC_none, wC_some, wF_nil, wF_cons, wI_seq, wI_rng, wI_zip, wI_enm, wB_add, wB_adds, wB_addt, wB_sub, wB_mul, wB_fdv, wB_mod, wB_pow, wC_lt, wC_le, wC_gt, wC_ge, wC_eq, wC_ne, wC_is, wC_isnot, eqD_int, eqD_str, eqD_bl, wI_ref, wI_tup, wS_exp, wS_nam, wS_sub, wS_tup, wS_par, wS_ret0, wS_ret, wS_ite, wS_for, wS_whl, wS_pass, wS_dead, wT_nil, wT_cons, onB_bl, onV_some, onO_some, onI_int, onZ_bl, List.getElem?_cons_zero, List.getElem?_cons_succ, List.set_cons_zero, List.set_cons_succ, decide_eq_true_eq, wF_len, wF_lent, wF_lens, wF_lst, wF_tup, wF_sum, wF_min, wF_max, wF_inti, wF_intb, wF_str, wM_app, wM_popA, wM_join, wM_split, rcv_app, rcv_popA, rcv_join, rcv_split, wR_1, wR_2, wZ_3, wZ_2, walk_tup, walk_fl, wU_fl, wT_strs, at0, at1, at2, at3, at4, atL, items_tup, items_fl, true_and, Option.isSome_some, List.length_set, ixn_4_0, ixn_4_1, ixn_4_2, ixn_4_3, List.length_cons, List.length_nil, Nat.zero_add, Nat.reduceAdd, Nat.reduceLT, Nat.reduceLeDiff, ne_eq, Nat.reduceEqDiff, Int.reducePow, Int.reduceToNat, Int.reduceEq, Int.reduceLT, Int.reduceLE, Int.reduceNeg, not_false_eq_true, reduceIte, Bool.false_eq_true, List.map_cons, List.map_nil, List.eraseIdx_cons_zero, not_true_eq_false, Bool.not_true, Bool.not_false, List.length_append, List.append_assoc, List.cons_append, List.nil_append, List.append_nil, items_W, items_W0, items_c0, items_c1, items_c2, items_c3, items_c4, lst_W, lst_W0, lst_c0, lst_c1, lst_c2, lst_c3, set_W, wB_addl, Nat.add_assoc, items_cs, items_last, wI_strW, wC_in, wC_notin, opIn_sign, walk_str, wF_intS, wT_tt, wT_tl, wT_it, wT_il, wT_is, wT_ii, wT_ib, wF_all, isNon_non, isNon_int, isNon_ref, isNon_tup, isNon_str, items_V, lst_V, set_V, bls_repW, all_repW, lst_last, set_last, walk_c0, strs_mapD, wp_quiet, bind3, bind2, bindU2, bindU3, atLm, map_snoc_int, ints_mapD, items_ss, set_W0, Option.map_some, Nat.add_zero, hl]
  refine ⟨by decide, by decide, fits_w h1 (by omega), ?_⟩
  refine forW0 (fun i σ S => ∃ (ps : List D) (lp : D) (T' : Sto) (y3 y4 y5 y6 y7 : Option D), σ = [some (.ref t), some (.int m), some (.ref (l + U.length)), y3, y4, y5, y6, y7] ∧ S = T' ++ (U ++ [.lst (ps ++ [lp])]) ∧ Tp t l T' ∧ (∀ p ∈ ps, Pl p) ∧ Pl lp ∧ ps.length = i ∧ (ps ++ [lp])[0]? = some E0)
    ⟨[], .tup [.str ("end" : Str)], T, none, none, none, none, none, rfl, rfl, h, (fun p z => by cases z), .nd, rfl, rfl⟩ ?_ ?_
  · rintro i d σ S ⟨ps, lp, T', y3, y4, y5, y6, y7, rfl, rfl, hT, hps, hlp, hlen, hze⟩ hd
    obtain ⟨hi, rfl⟩ := rngD_get hd
    have hl := hT.1
    obtain ⟨b, hb⟩ := hlp.eqC (S := T' ++ (U ++ [.lst (ps ++ [lp])]))
    simp only [bind1, wE_var, wE_cst, wE_glb, wE_bin, wE_neg, wE_cmp, wE_chn, wE_band, wE_bor, wE_not, wE_ite, wE_tup, wE_lst, wE_ix, wE_slc, wE_call, wE_blt, wE_isi, wE_mth, wE_one, wE_comp, wE_fst, wL_nil, wL_cons, wO_none, wO_some, wC_none, wC_some, wF_nil, wF_cons, wI_seq, wI_rng, wI_zip, wI_enm, wB_add, wB_adds, wB_addt, wB_sub, wB_mul, wB_fdv, wB_mod, wB_pow, wC_lt, wC_le, wC_gt, wC_ge, wC_eq, wC_ne, wC_is, wC_isnot, eqD_int, eqD_str, eqD_bl, wI_ref, wI_tup, wS_exp, wS_nam, wS_sub, wS_tup, wS_par, wS_ret0, wS_ret, wS_ite, wS_for, wS_whl, wS_pass, wS_dead, wT_nil, wT_cons, onB_bl, onV_some, onO_some, onI_int, onZ_bl, List.getElem?_cons_zero, List.getElem?_cons_succ, List.set_cons_zero, List.set_cons_succ, decide_eq_true_eq, wF_len, wF_lent, wF_lens, wF_lst, wF_tup, wF_sum, wF_min, wF_max, wF_inti, wF_intb, wF_str, wM_app, wM_popA, wM_join, wM_split, rcv_app, rcv_popA, rcv_join, rcv_split, wR_1, wR_2, wZ_3, wZ_2, walk_tup, walk_fl, wU_fl, wT_strs, at0, at1, at2, at3, at4, atL, items_tup, items_fl, true_and, Option.isSome_some, List.length_set, ixn_4_0, ixn_4_1, ixn_4_2, ixn_4_3, List.length_cons, List.length_nil, Nat.zero_add, Nat.reduceAdd, Nat.reduceLT, Nat.reduceLeDiff, ne_eq, Nat.reduceEqDiff, Int.reducePow, Int.reduceToNat, Int.reduceEq, Int.reduceLT, Int.reduceLE, Int.reduceNeg, not_false_eq_true, reduceIte, Bool.false_eq_true, List.map_cons, List.map_nil, List.eraseIdx_cons_zero, not_true_eq_false, Bool.not_true, Bool.not_false, List.length_append, List.append_assoc, List.cons_append, List.nil_append, List.append_nil, items_W, items_W0, items_c0, items_c1, items_c2, items_c3, items_c4, lst_W, lst_W0, lst_c0, lst_c1, lst_c2, lst_c3, set_W, wB_addl, Nat.add_assoc, items_cs, items_last, wI_strW, wC_in, wC_notin, opIn_sign, walk_str, wF_intS, wT_tt, wT_tl, wT_it, wT_il, wT_is, wT_ii, wT_ib, wF_all, isNon_non, isNon_int, isNon_ref, isNon_tup, isNon_str, items_V, lst_V, set_V, bls_repW, all_repW, lst_last, set_last, walk_c0, strs_mapD, wp_quiet, bind3, bind2, bindU2, bindU3, atLm, map_snoc_int, ints_mapD, items_ss, set_W0, Option.map_some, Nat.add_zero, hl, hb]
    have hsz : ps.length + 1 < sizeLine := by
      rw [hlen]
      have : sizeLine = 16777216 := rfl
      omega
    have els : ∀ (T2 : Sto) (z3 z4 z5 z6 z7 : Option D), Tp t l T2 → ∀ o : D, Pl o → ∃ (ps' : List D) (lp' : D) (T'' : Sto) (y3 y4 y5 y6 y7 : Option D), [some (D.ref t), some (D.int m), some (.ref (l + U.length)), z3, z4, z5, z6, z7] = [some (.ref t), some (.int m), some (.ref (l + U.length)), y3, y4, y5, y6, y7] ∧ T2 ++ (U ++ [.lst (ps ++ [lp, o])]) = T'' ++ (U ++ [.lst (ps' ++ [lp'])]) ∧ Tp t l T'' ∧ (∀ p ∈ ps', Pl p) ∧ Pl lp' ∧ ps'.length = i + 1 ∧ (ps' ++ [lp'])[0]? = some E0 := by
      intro T2 z3 z4 z5 z6 z7 h2 o ho
      refine ⟨ps ++ [lp], o, T2, _, _, _, _, _, rfl, by simp, h2, ?_, ho, by simp [hlen], by rw [List.getElem?_append_left (by simp)]; exact hze⟩
      intro p hp
      rcases List.mem_append.1 hp with hp | hp
      · exact hps p hp
      · cases List.mem_singleton.1 hp
        exact hlp
    refine ⟨by decide, ifI (fun _ => ifI (fun _ => take_q L hT (by decide) (by decide) fun v T2 _ _ h2 => ?_) fun _ => ⟨by decide, hsz, els _ _ _ _ _ _ hT _ .ch⟩) fun _ => ⟨by decide, hsz, els _ _ _ _ _ _ hT _ .ch⟩⟩
    simp only [wE_var, wE_cst, wE_glb, wE_bin, wE_neg, wE_cmp, wE_chn, wE_band, wE_bor, wE_not, wE_ite, wE_tup, wE_lst, wE_ix, wE_slc, wE_call, wE_blt, wE_isi, wE_mth, wE_one, wE_comp, wE_fst, wL_nil, wL_cons, wO_none, wO_some, wC_none, wC_some, wF_nil, wF_cons, wI_seq, wI_rng, wI_zip, wI_enm, wB_add, wB_adds, wB_addt, wB_sub, wB_mul, wB_fdv, wB_mod, wB_pow, wC_lt, wC_le, wC_gt, wC_ge, wC_eq, wC_ne, wC_is, wC_isnot, eqD_int, eqD_str, eqD_bl, wI_ref, wI_tup, wS_exp, wS_nam, wS_sub, wS_tup, wS_par, wS_ret0, wS_ret, wS_ite, wS_for, wS_whl, wS_pass, wS_dead, wT_nil, wT_cons, onB_bl, onV_some, onO_some, onI_int, onZ_bl, List.getElem?_cons_zero, List.getElem?_cons_succ, List.set_cons_zero, List.set_cons_succ, decide_eq_true_eq, wF_len, wF_lent, wF_lens, wF_lst, wF_tup, wF_sum, wF_min, wF_max, wF_inti, wF_intb, wF_str, wM_app, wM_popA, wM_join, wM_split, rcv_app, rcv_popA, rcv_join, rcv_split, wR_1, wR_2, wZ_3, wZ_2, walk_tup, walk_fl, wU_fl, wT_strs, at0, at1, at2, at3, at4, atL, items_tup, items_fl, true_and, Option.isSome_some, List.length_set, ixn_4_0, ixn_4_1, ixn_4_2, ixn_4_3, List.length_cons, List.length_nil, Nat.zero_add, Nat.reduceAdd, Nat.reduceLT, Nat.reduceLeDiff, ne_eq, Nat.reduceEqDiff, Int.reducePow, Int.reduceToNat, Int.reduceEq, Int.reduceLT, Int.reduceLE, Int.reduceNeg, not_false_eq_true, reduceIte, Bool.false_eq_true, List.map_cons, List.map_nil, List.eraseIdx_cons_zero, not_true_eq_false, Bool.not_true, Bool.not_false, List.length_append, List.append_assoc, List.cons_append, List.nil_append, List.append_nil, items_W, items_W0, items_c0, items_c1, items_c2, items_c3, items_c4, lst_W, lst_W0, lst_c0, lst_c1, lst_c2, lst_c3, set_W, wB_addl, Nat.add_assoc, items_cs, items_last, wI_strW, wC_in, wC_notin, opIn_sign, walk_str, wF_intS, wT_tt, wT_tl, wT_it, wT_il, wT_is, wT_ii, wT_ib, wF_all, isNon_non, isNon_int, isNon_ref, isNon_tup, isNon_str, items_V, lst_V, set_V, bls_repW, all_repW, lst_last, set_last, walk_c0, strs_mapD, wp_quiet, bind3, bind2, bindU2, bindU3, atLm, map_snoc_int, ints_mapD, items_ss, set_W0, Option.map_some, Nat.add_zero, h2.1]
    refine ifI (fun _ => take_q L h2 (by decide) (by decide) fun b T3 b0 b1 h3 => ?_) fun _ => ⟨by decide, hsz, els _ _ _ _ _ _ h2 _ .ch⟩
    try simp only [wE_var, wE_cst, wE_glb, wE_bin, wE_neg, wE_cmp, wE_chn, wE_band, wE_bor, wE_not, wE_ite, wE_tup, wE_lst, wE_ix, wE_slc, wE_call, wE_blt, wE_isi, wE_mth, wE_one, wE_comp, wE_fst, wL_nil, wL_cons, wO_none, wO_some, wC_none, wC_some, wF_nil, wF_cons, wI_seq, wI_rng, wI_zip, wI_enm, wB_add, wB_adds, wB_addt, wB_sub, wB_mul, wB_fdv, wB_mod, wB_pow, wC_lt, wC_le, wC_gt, wC_ge, wC_eq, wC_ne, wC_is, wC_isnot, eqD_int, eqD_str, eqD_bl, wI_ref, wI_tup, wS_exp, wS_nam, wS_sub, wS_tup, wS_par, wS_ret0, wS_ret, wS_ite, wS_for, wS_whl, wS_pass, wS_dead, wT_nil, wT_cons, onB_bl, onV_some, onO_some, onI_int, onZ_bl, List.getElem?_cons_zero, List.getElem?_cons_succ, List.set_cons_zero, List.set_cons_succ, decide_eq_true_eq, wF_len, wF_lent, wF_lens, wF_lst, wF_tup, wF_sum, wF_min, wF_max, wF_inti, wF_intb, wF_str, wM_app, wM_popA, wM_join, wM_split, rcv_app, rcv_popA, rcv_join, rcv_split, wR_1, wR_2, wZ_3, wZ_2, walk_tup, walk_fl, wU_fl, wT_strs, at0, at1, at2, at3, at4, atL, items_tup, items_fl, true_and, Option.isSome_some, List.length_set, ixn_4_0, ixn_4_1, ixn_4_2, ixn_4_3, List.length_cons, List.length_nil, Nat.zero_add, Nat.reduceAdd, Nat.reduceLT, Nat.reduceLeDiff, ne_eq, Nat.reduceEqDiff, Int.reducePow, Int.reduceToNat, Int.reduceEq, Int.reduceLT, Int.reduceLE, Int.reduceNeg, not_false_eq_true, reduceIte, Bool.false_eq_true, List.map_cons, List.map_nil, List.eraseIdx_cons_zero, not_true_eq_false, Bool.not_true, Bool.not_false, List.length_append, List.append_assoc, List.cons_append, List.nil_append, List.append_nil, items_W, items_W0, items_c0, items_c1, items_c2, items_c3, items_c4, lst_W, lst_W0, lst_c0, lst_c1, lst_c2, lst_c3, set_W, wB_addl, Nat.add_assoc, items_cs, items_last, wI_strW, wC_in, wC_notin, opIn_sign, walk_str, wF_intS, wT_tt, wT_tl, wT_it, wT_il, wT_is, wT_ii, wT_ib, wF_all, isNon_non, isNon_int, isNon_ref, isNon_tup, isNon_str, items_V, lst_V, set_V, bls_repW, all_repW, lst_last, set_last, walk_c0, strs_mapD, wp_quiet, bind3, bind2, bindU2, bindU3, atLm, map_snoc_int, ints_mapD, items_ss, set_W0, Option.map_some, Nat.add_zero]
    refine take_q L h3 (by omega) (by omega) fun d T4 d0 d1 h4 => ?_
    try simp only [wE_var, wE_cst, wE_glb, wE_bin, wE_neg, wE_cmp, wE_chn, wE_band, wE_bor, wE_not, wE_ite, wE_tup, wE_lst, wE_ix, wE_slc, wE_call, wE_blt, wE_isi, wE_mth, wE_one, wE_comp, wE_fst, wL_nil, wL_cons, wO_none, wO_some, wC_none, wC_some, wF_nil, wF_cons, wI_seq, wI_rng, wI_zip, wI_enm, wB_add, wB_adds, wB_addt, wB_sub, wB_mul, wB_fdv, wB_mod, wB_pow, wC_lt, wC_le, wC_gt, wC_ge, wC_eq, wC_ne, wC_is, wC_isnot, eqD_int, eqD_str, eqD_bl, wI_ref, wI_tup, wS_exp, wS_nam, wS_sub, wS_tup, wS_par, wS_ret0, wS_ret, wS_ite, wS_for, wS_whl, wS_pass, wS_dead, wT_nil, wT_cons, onB_bl, onV_some, onO_some, onI_int, onZ_bl, List.getElem?_cons_zero, List.getElem?_cons_succ, List.set_cons_zero, List.set_cons_succ, decide_eq_true_eq, wF_len, wF_lent, wF_lens, wF_lst, wF_tup, wF_sum, wF_min, wF_max, wF_inti, wF_intb, wF_str, wM_app, wM_popA, wM_join, wM_split, rcv_app, rcv_popA, rcv_join, rcv_split, wR_1, wR_2, wZ_3, wZ_2, walk_tup, walk_fl, wU_fl, wT_strs, at0, at1, at2, at3, at4, atL, items_tup, items_fl, true_and, Option.isSome_some, List.length_set, ixn_4_0, ixn_4_1, ixn_4_2, ixn_4_3, List.length_cons, List.length_nil, Nat.zero_add, Nat.reduceAdd, Nat.reduceLT, Nat.reduceLeDiff, ne_eq, Nat.reduceEqDiff, Int.reducePow, Int.reduceToNat, Int.reduceEq, Int.reduceLT, Int.reduceLE, Int.reduceNeg, not_false_eq_true, reduceIte, Bool.false_eq_true, List.map_cons, List.map_nil, List.eraseIdx_cons_zero, not_true_eq_false, Bool.not_true, Bool.not_false, List.length_append, List.append_assoc, List.cons_append, List.nil_append, List.append_nil, items_W, items_W0, items_c0, items_c1, items_c2, items_c3, items_c4, lst_W, lst_W0, lst_c0, lst_c1, lst_c2, lst_c3, set_W, wB_addl, Nat.add_assoc, items_cs, items_last, wI_strW, wC_in, wC_notin, opIn_sign, walk_str, wF_intS, wT_tt, wT_tl, wT_it, wT_il, wT_is, wT_ii, wT_ib, wF_all, isNon_non, isNon_int, isNon_ref, isNon_tup, isNon_str, items_V, lst_V, set_V, bls_repW, all_repW, lst_last, set_last, walk_c0, strs_mapD, wp_quiet, bind3, bind2, bindU2, bindU3, atLm, map_snoc_int, ints_mapD, items_ss, set_W0, Option.map_some, Nat.add_zero]
    refine take_q L h4 (by omega) (by omega) fun r T5 r0 r1 h5 => ?_
    try simp only [wE_var, wE_cst, wE_glb, wE_bin, wE_neg, wE_cmp, wE_chn, wE_band, wE_bor, wE_not, wE_ite, wE_tup, wE_lst, wE_ix, wE_slc, wE_call, wE_blt, wE_isi, wE_mth, wE_one, wE_comp, wE_fst, wL_nil, wL_cons, wO_none, wO_some, wC_none, wC_some, wF_nil, wF_cons, wI_seq, wI_rng, wI_zip, wI_enm, wB_add, wB_adds, wB_addt, wB_sub, wB_mul, wB_fdv, wB_mod, wB_pow, wC_lt, wC_le, wC_gt, wC_ge, wC_eq, wC_ne, wC_is, wC_isnot, eqD_int, eqD_str, eqD_bl, wI_ref, wI_tup, wS_exp, wS_nam, wS_sub, wS_tup, wS_par, wS_ret0, wS_ret, wS_ite, wS_for, wS_whl, wS_pass, wS_dead, wT_nil, wT_cons, onB_bl, onV_some, onO_some, onI_int, onZ_bl, List.getElem?_cons_zero, List.getElem?_cons_succ, List.set_cons_zero, List.set_cons_succ, decide_eq_true_eq, wF_len, wF_lent, wF_lens, wF_lst, wF_tup, wF_sum, wF_min, wF_max, wF_inti, wF_intb, wF_str, wM_app, wM_popA, wM_join, wM_split, rcv_app, rcv_popA, rcv_join, rcv_split, wR_1, wR_2, wZ_3, wZ_2, walk_tup, walk_fl, wU_fl, wT_strs, at0, at1, at2, at3, at4, atL, items_tup, items_fl, true_and, Option.isSome_some, List.length_set, ixn_4_0, ixn_4_1, ixn_4_2, ixn_4_3, List.length_cons, List.length_nil, Nat.zero_add, Nat.reduceAdd, Nat.reduceLT, Nat.reduceLeDiff, ne_eq, Nat.reduceEqDiff, Int.reducePow, Int.reduceToNat, Int.reduceEq, Int.reduceLT, Int.reduceLE, Int.reduceNeg, not_false_eq_true, reduceIte, Bool.false_eq_true, List.map_cons, List.map_nil, List.eraseIdx_cons_zero, not_true_eq_false, Bool.not_true, Bool.not_false, List.length_append, List.append_assoc, List.cons_append, List.nil_append, List.append_nil, items_W, items_W0, items_c0, items_c1, items_c2, items_c3, items_c4, lst_W, lst_W0, lst_c0, lst_c1, lst_c2, lst_c3, set_W, wB_addl, Nat.add_assoc, items_cs, items_last, wI_strW, wC_in, wC_notin, opIn_sign, walk_str, wF_intS, wT_tt, wT_tl, wT_it, wT_il, wT_is, wT_ii, wT_ib, wF_all, isNon_non, isNon_int, isNon_ref, isNon_tup, isNon_str, items_V, lst_V, set_V, bls_repW, all_repW, lst_last, set_last, walk_c0, strs_mapD, wp_quiet, bind3, bind2, bindU2, bindU3, atLm, map_snoc_int, ints_mapD, items_ss, set_W0, Option.map_some, Nat.add_zero]
    refine take_q L h5 (by omega) (by omega) fun p T6 p0 p1 h6 => ?_
    simp only [wE_var, wE_cst, wE_glb, wE_bin, wE_neg, wE_cmp, wE_chn, wE_band, wE_bor, wE_not, wE_ite, wE_tup, wE_lst, wE_ix, wE_slc, wE_call, wE_blt, wE_isi, wE_mth, wE_one, wE_comp, wE_fst, wL_nil, wL_cons, wO_none, wO_some, wC_none, wC_some, wF_nil, wF_cons, wI_seq, wI_rng, wI_zip, wI_enm, wB_add, wB_adds, wB_addt, wB_sub, wB_mul, wB_fdv, wB_mod, wB_pow, wC_lt, wC_le, wC_gt, wC_ge, wC_eq, wC_ne, wC_is, wC_isnot, eqD_int, eqD_str, eqD_bl, wI_ref, wI_tup, wS_exp, wS_nam, wS_sub, wS_tup, wS_par, wS_ret0, wS_ret, wS_ite, wS_for, wS_whl, wS_pass, wS_dead, wT_nil, wT_cons, onB_bl, onV_some, onO_some, onI_int, onZ_bl, List.getElem?_cons_zero, List.getElem?_cons_succ, List.set_cons_zero, List.set_cons_succ, decide_eq_true_eq, wF_len, wF_lent, wF_lens, wF_lst, wF_tup, wF_sum, wF_min, wF_max, wF_inti, wF_intb, wF_str, wM_app, wM_popA, wM_join, wM_split, rcv_app, rcv_popA, rcv_join, rcv_split, wR_1, wR_2, wZ_3, wZ_2, walk_tup, walk_fl, wU_fl, wT_strs, at0, at1, at2, at3, at4, atL, items_tup, items_fl, true_and, Option.isSome_some, List.length_set, ixn_4_0, ixn_4_1, ixn_4_2, ixn_4_3, List.length_cons, List.length_nil, Nat.zero_add, Nat.reduceAdd, Nat.reduceLT, Nat.reduceLeDiff, ne_eq, Nat.reduceEqDiff, Int.reducePow, Int.reduceToNat, Int.reduceEq, Int.reduceLT, Int.reduceLE, Int.reduceNeg, not_false_eq_true, reduceIte, Bool.false_eq_true, List.map_cons, List.map_nil, List.eraseIdx_cons_zero, not_true_eq_false, Bool.not_true, Bool.not_false, List.length_append, List.append_assoc, List.cons_append, List.nil_append, List.append_nil, items_W, items_W0, items_c0, items_c1, items_c2, items_c3, items_c4, lst_W, lst_W0, lst_c0, lst_c1, lst_c2, lst_c3, set_W, wB_addl, Nat.add_assoc, items_cs, items_last, wI_strW, wC_in, wC_notin, opIn_sign, walk_str, wF_intS, wT_tt, wT_tl, wT_it, wT_il, wT_is, wT_ii, wT_ib, wF_all, isNon_non, isNon_int, isNon_ref, isNon_tup, isNon_str, items_V, lst_V, set_V, bls_repW, all_repW, lst_last, set_last, walk_c0, strs_mapD, wp_quiet, bind3, bind2, bindU2, bindU3, atLm, map_snoc_int, ints_mapD, items_ss, set_W0, Option.map_some, Nat.add_zero, h6.1]
    exact ifI (fun hp => ⟨by decide, hsz, els _ _ _ _ _ _ h6 _ (.po _ _ _ _ (by omega) (by omega) d0 (by omega) (by omega) (by omega) (.inr ⟨_, rfl, p0, hp⟩))⟩) fun hp => ⟨by decide, hsz, els _ _ _ _ _ _ h6 _ (.po _ _ _ _ (by omega) (by omega) d0 (by omega) (by omega) (by omega) (.inl rfl))⟩
  · rintro σ S ⟨ps, lp, T', y3, y4, y5, y6, y7, rfl, rfl, hT, hps, hlp, hlen, hze⟩
    have hl := hT.1
    rw [rngD_len] at hlen
    simp only [wE_var, wE_cst, wE_glb, wE_bin, wE_neg, wE_cmp, wE_chn, wE_band, wE_bor, wE_not, wE_ite, wE_tup, wE_lst, wE_ix, wE_slc, wE_call, wE_blt, wE_isi, wE_mth, wE_one, wE_comp, wE_fst, wL_nil, wL_cons, wO_none, wO_some, wC_none, wC_some, wF_nil, wF_cons, wI_seq, wI_rng, wI_zip, wI_enm, wB_add, wB_adds, wB_addt, wB_sub, wB_mul, wB_fdv, wB_mod, wB_pow, wC_lt, wC_le, wC_gt, wC_ge, wC_eq, wC_ne, wC_is, wC_isnot, eqD_int, eqD_str, eqD_bl, wI_ref, wI_tup, wS_exp, wS_nam, wS_sub, wS_tup, wS_par, wS_ret0, wS_ret, wS_ite, wS_for, wS_whl, wS_pass, wS_dead, wT_nil, wT_cons, onB_bl, onV_some, onO_some, onI_int, onZ_bl, List.getElem?_cons_zero, List.getElem?_cons_succ, List.set_cons_zero, List.set_cons_succ, decide_eq_true_eq, wF_len, wF_lent, wF_lens, wF_lst, wF_tup, wF_sum, wF_min, wF_max, wF_inti, wF_intb, wF_str, wM_app, wM_popA, wM_join, wM_split, rcv_app, rcv_popA, rcv_join, rcv_split, wR_1, wR_2, wZ_3, wZ_2, walk_tup, walk_fl, wU_fl, wT_strs, at0, at1, at2, at3, at4, atL, items_tup, items_fl, true_and, Option.isSome_some, List.length_set, ixn_4_0, ixn_4_1, ixn_4_2, ixn_4_3, List.length_cons, List.length_nil, Nat.zero_add, Nat.reduceAdd, Nat.reduceLT, Nat.reduceLeDiff, ne_eq, Nat.reduceEqDiff, Int.reducePow, Int.reduceToNat, Int.reduceEq, Int.reduceLT, Int.reduceLE, Int.reduceNeg, not_false_eq_true, reduceIte, Bool.false_eq_true, List.map_cons, List.map_nil, List.eraseIdx_cons_zero, not_true_eq_false, Bool.not_true, Bool.not_false, List.length_append, List.append_assoc, List.cons_append, List.nil_append, List.append_nil, items_W, items_W0, items_c0, items_c1, items_c2, items_c3, items_c4, lst_W, lst_W0, lst_c0, lst_c1, lst_c2, lst_c3, set_W, wB_addl, Nat.add_assoc, items_cs, items_last, wI_strW, wC_in, wC_notin, opIn_sign, walk_str, wF_intS, wT_tt, wT_tl, wT_it, wT_il, wT_is, wT_ii, wT_ib, wF_all, isNon_non, isNon_int, isNon_ref, isNon_tup, isNon_str, items_V, lst_V, set_V, bls_repW, all_repW, lst_last, set_last, walk_c0, strs_mapD, wp_quiet, bind3, bind2, bindU2, bindU3, atLm, map_snoc_int, ints_mapD, items_ss, set_W0, Option.map_some, Nat.add_zero, hl]
    have e : (ps ++ [lp, .tup [.str ("end" : Str)]]).length = ps.length + 2 := by simp
    refine ⟨by decide, by decide, ?_, q _ _ _ (fun p hp => ?_) (by rw [e]; omega) (by rw [show ps ++ [lp, E0] = (ps ++ [lp]) ++ [E0] by simp, List.getElem?_append_left (by simp)]; exact hze) (by rw [e, show ps ++ [lp, E0] = (ps ++ [lp]) ++ [E0] by simp, List.getElem?_append_right (by simp)]; simp) hT⟩
    · have : sizeLine = 16777216 := rfl
      omega
    · rcases List.mem_append.1 hp with hp | hp
      · exact hps p hp
      · rcases List.mem_cons.1 hp with rfl | hp
        · exact hlp
        · cases List.mem_singleton.1 hp
          exact .nd
theorem canal_w (L : Lk Tb) (Lp : Tb.lookup ("_law_places" : Str) = some d__law_places) (L3 : Tb.lookup ("_law_canal" : Str) = some d__law_canal) {n t l : Nat} {T U : Sto} (h : Tp t l T) {Q : D → Sto → Prop} {X : XR}
    (q : ∀ (ps gs : List D) T' G, (∀ p ∈ ps, Pl p) → 3 ≤ ps.length → ps.length ≤ 13 → (∀ g ∈ gs, g = .str ("up" : Str) ∨ g = .str ("down" : Str)) → gs.length + 1 = ps.length → ps[0]? = some E0 → ps[ps.length - 1]? = some E0 → Tp t l T' → Q (.tup [.tup ps, .tup gs]) (T' ++ (U ++ G))) : (callN Tb gl (n + 4) ("_law_canal" : Str) [.ref t] (T ++ U)).wp Q X := by
  rw [callW (σ := [some (.ref t), none, none, none, none, none, none, none]) L3 rfl rfl]
  have hl := h.1
  simp only [d__law_canal, wE_var, wE_cst, wE_glb, wE_bin, wE_neg, wE_cmp, wE_chn, wE_band, wE_bor, wE_not, wE_ite, wE_tup, wE_lst, wE_ix, wE_slc, wE_call, wE_blt, wE_isi, wE_mth, wE_one, wE_comp, wE_fst, wL_nil, wL_cons, wO_none, wO_some, wC_none, wC_some, wF_nil, wF_cons, wI_seq, wI_rng, wI_zip, wI_enm, wB_add, wB_adds, wB_addt, wB_sub, wB_mul, wB_fdv, wB_mod, wB_pow, wC_lt, wC_le, wC_gt, wC_ge, wC_eq, wC_ne, wC_is, wC_isnot, eqD_int, eqD_str, eqD_bl, wI_ref, wI_tup, wS_exp, wS_nam, wS_sub, wS_tup, wS_par, wS_ret0, wS_ret, wS_ite, wS_for, wS_whl, wS_pass, wS_dead, wT_nil, wT_cons, onB_bl, onV_some, onO_some, onI_int, onZ_bl, List.getElem?_cons_zero, List.getElem?_cons_succ, List.set_cons_zero, List.set_cons_succ, decide_eq_true_eq, wF_len, wF_lent, wF_lens, wF_lst, wF_tup, wF_sum, wF_min, wF_max, wF_inti, wF_intb, wF_str, wM_app, wM_popA, wM_join, wM_split, rcv_app, rcv_popA, rcv_join, rcv_split, wR_1, wR_2, wZ_3, wZ_2, walk_tup, walk_fl, wU_fl, wT_strs, at0, at1, at2, at3, at4, atL, items_tup, items_fl, true_and, Option.isSome_some, List.length_set, ixn_4_0, ixn_4_1, ixn_4_2, ixn_4_3, List.length_cons, List.length_nil, Nat.zero_add, Nat.reduceAdd, Nat.reduceLT, Nat.reduceLeDiff, ne_eq, Nat.reduceEqDiff, Int.reducePow, Int.reduceToNat, Int.reduceEq, Int.reduceLT, Int.reduceLE, Int.reduceNeg, not_false_eq_true, reduceIte, Bool.false_eq_true, List.map_cons, List.map_nil, List.eraseIdx_cons_zero, not_true_eq_false, Bool.not_true, Bool.not_false, List.length_append, List.append_assoc, List.cons_append, List.nil_append, List.append_nil, items_W, items_W0, items_c0, items_c1, items_c2, items_c3, items_c4, lst_W, lst_W0, lst_c0, lst_c1, lst_c2, lst_c3, set_W, wB_addl, Nat.add_assoc, items_cs, items_last, wI_strW, wC_in, wC_notin, opIn_sign, walk_str, wF_intS, wT_tt, wT_tl, wT_it, wT_il, wT_is, wT_ii, wT_ib, wF_all, isNon_non, isNon_int, isNon_ref, isNon_tup, isNon_str, items_V, lst_V, set_V, bls_repW, all_repW, lst_last, set_last, walk_c0, strs_mapD, wp_quiet, bind3, bind2, bindU2, bindU3, atLm, map_snoc_int, ints_mapD, items_ss, set_W0, Option.map_some, Nat.add_zero, hl]
  refine ⟨by decide, take_q L h (by decide) (by decide) fun v T2 v0 v1 h2 => ?_⟩
  obtain ⟨k, hk, k0, k1⟩ : ∃ k, atI [D.int 1, .int 4, .int 11] v = some (.int k) ∧ 1 ≤ k ∧ k ≤ 11 := by
    rcases (by omega : v = 0 ∨ v = 1 ∨ v = 2) with rfl | rfl | rfl
    · exact ⟨1, rfl, by decide, by decide⟩
    · exact ⟨4, rfl, by decide, by decide⟩
    · exact ⟨11, rfl, by decide, by decide⟩
  simp only [wE_var, wE_cst, wE_glb, wE_bin, wE_neg, wE_cmp, wE_chn, wE_band, wE_bor, wE_not, wE_ite, wE_tup, wE_lst, wE_ix, wE_slc, wE_call, wE_blt, wE_isi, wE_mth, wE_one, wE_comp, wE_fst, wL_nil, wL_cons, wO_none, wO_some, wC_none, wC_some, wF_nil, wF_cons, wI_seq, wI_rng, wI_zip, wI_enm, wB_add, wB_adds, wB_addt, wB_sub, wB_mul, wB_fdv, wB_mod, wB_pow, wC_lt, wC_le, wC_gt, wC_ge, wC_eq, wC_ne, wC_is, wC_isnot, eqD_int, eqD_str, eqD_bl, wI_ref, wI_tup, wS_exp, wS_nam, wS_sub, wS_tup, wS_par, wS_ret0, wS_ret, wS_ite, wS_for, wS_whl, wS_pass, wS_dead, wT_nil, wT_cons, onB_bl, onV_some, onO_some, onI_int, onZ_bl, List.getElem?_cons_zero, List.getElem?_cons_succ, List.set_cons_zero, List.set_cons_succ, decide_eq_true_eq, wF_len, wF_lent, wF_lens, wF_lst, wF_tup, wF_sum, wF_min, wF_max, wF_inti, wF_intb, wF_str, wM_app, wM_popA, wM_join, wM_split, rcv_app, rcv_popA, rcv_join, rcv_split, wR_1, wR_2, wZ_3, wZ_2, walk_tup, walk_fl, wU_fl, wT_strs, at0, at1, at2, at3, at4, atL, items_tup, items_fl, true_and, Option.isSome_some, List.length_set, ixn_4_0, ixn_4_1, ixn_4_2, ixn_4_3, List.length_cons, List.length_nil, Nat.zero_add, Nat.reduceAdd, Nat.reduceLT, Nat.reduceLeDiff, ne_eq, Nat.reduceEqDiff, Int.reducePow, Int.reduceToNat, Int.reduceEq, Int.reduceLT, Int.reduceLE, Int.reduceNeg, not_false_eq_true, reduceIte, Bool.false_eq_true, List.map_cons, List.map_nil, List.eraseIdx_cons_zero, not_true_eq_false, Bool.not_true, Bool.not_false, List.length_append, List.append_assoc, List.cons_append, List.nil_append, List.append_nil, items_W, items_W0, items_c0, items_c1, items_c2, items_c3, items_c4, lst_W, lst_W0, lst_c0, lst_c1, lst_c2, lst_c3, set_W, wB_addl, Nat.add_assoc, items_cs, items_last, wI_strW, wC_in, wC_notin, opIn_sign, walk_str, wF_intS, wT_tt, wT_tl, wT_it, wT_il, wT_is, wT_ii, wT_ib, wF_all, isNon_non, isNon_int, isNon_ref, isNon_tup, isNon_str, items_V, lst_V, set_V, bls_repW, all_repW, lst_last, set_last, walk_c0, strs_mapD, wp_quiet, bind3, bind2, bindU2, bindU3, atLm, map_snoc_int, ints_mapD, items_ss, set_W0, Option.map_some, Nat.add_zero, h2.1, hk]
  refine take_q L h2 (by omega) (by omega) fun w T3 w0 w1 h3 => ?_
  try simp only [wE_var, wE_cst, wE_glb, wE_bin, wE_neg, wE_cmp, wE_chn, wE_band, wE_bor, wE_not, wE_ite, wE_tup, wE_lst, wE_ix, wE_slc, wE_call, wE_blt, wE_isi, wE_mth, wE_one, wE_comp, wE_fst, wL_nil, wL_cons, wO_none, wO_some, wC_none, wC_some, wF_nil, wF_cons, wI_seq, wI_rng, wI_zip, wI_enm, wB_add, wB_adds, wB_addt, wB_sub, wB_mul, wB_fdv, wB_mod, wB_pow, wC_lt, wC_le, wC_gt, wC_ge, wC_eq, wC_ne, wC_is, wC_isnot, eqD_int, eqD_str, eqD_bl, wI_ref, wI_tup, wS_exp, wS_nam, wS_sub, wS_tup, wS_par, wS_ret0, wS_ret, wS_ite, wS_for, wS_whl, wS_pass, wS_dead, wT_nil, wT_cons, onB_bl, onV_some, onO_some, onI_int, onZ_bl, List.getElem?_cons_zero, List.getElem?_cons_succ, List.set_cons_zero, List.set_cons_succ, decide_eq_true_eq, wF_len, wF_lent, wF_lens, wF_lst, wF_tup, wF_sum, wF_min, wF_max, wF_inti, wF_intb, wF_str, wM_app, wM_popA, wM_join, wM_split, rcv_app, rcv_popA, rcv_join, rcv_split, wR_1, wR_2, wZ_3, wZ_2, walk_tup, walk_fl, wU_fl, wT_strs, at0, at1, at2, at3, at4, atL, items_tup, items_fl, true_and, Option.isSome_some, List.length_set, ixn_4_0, ixn_4_1, ixn_4_2, ixn_4_3, List.length_cons, List.length_nil, Nat.zero_add, Nat.reduceAdd, Nat.reduceLT, Nat.reduceLeDiff, ne_eq, Nat.reduceEqDiff, Int.reducePow, Int.reduceToNat, Int.reduceEq, Int.reduceLT, Int.reduceLE, Int.reduceNeg, not_false_eq_true, reduceIte, Bool.false_eq_true, List.map_cons, List.map_nil, List.eraseIdx_cons_zero, not_true_eq_false, Bool.not_true, Bool.not_false, List.length_append, List.append_assoc, List.cons_append, List.nil_append, List.append_nil, items_W, items_W0, items_c0, items_c1, items_c2, items_c3, items_c4, lst_W, lst_W0, lst_c0, lst_c1, lst_c2, lst_c3, set_W, wB_addl, Nat.add_assoc, items_cs, items_last, wI_strW, wC_in, wC_notin, opIn_sign, walk_str, wF_intS, wT_tt, wT_tl, wT_it, wT_il, wT_is, wT_ii, wT_ib, wF_all, isNon_non, isNon_int, isNon_ref, isNon_tup, isNon_str, items_V, lst_V, set_V, bls_repW, all_repW, lst_last, set_last, walk_c0, strs_mapD, wp_quiet, bind3, bind2, bindU2, bindU3, atLm, map_snoc_int, ints_mapD, items_ss, set_W0, Option.map_some, Nat.add_zero]
  refine places_w L Lp h3 (by omega) (by omega) fun ps T4 G hps hpl hz0 hz1 h4 => ?_
  simp only [wE_var, wE_cst, wE_glb, wE_bin, wE_neg, wE_cmp, wE_chn, wE_band, wE_bor, wE_not, wE_ite, wE_tup, wE_lst, wE_ix, wE_slc, wE_call, wE_blt, wE_isi, wE_mth, wE_one, wE_comp, wE_fst, wL_nil, wL_cons, wO_none, wO_some, wC_none, wC_some, wF_nil, wF_cons, wI_seq, wI_rng, wI_zip, wI_enm, wB_add, wB_adds, wB_addt, wB_sub, wB_mul, wB_fdv, wB_mod, wB_pow, wC_lt, wC_le, wC_gt, wC_ge, wC_eq, wC_ne, wC_is, wC_isnot, eqD_int, eqD_str, eqD_bl, wI_ref, wI_tup, wS_exp, wS_nam, wS_sub, wS_tup, wS_par, wS_ret0, wS_ret, wS_ite, wS_for, wS_whl, wS_pass, wS_dead, wT_nil, wT_cons, onB_bl, onV_some, onO_some, onI_int, onZ_bl, List.getElem?_cons_zero, List.getElem?_cons_succ, List.set_cons_zero, List.set_cons_succ, decide_eq_true_eq, wF_len, wF_lent, wF_lens, wF_lst, wF_tup, wF_sum, wF_min, wF_max, wF_inti, wF_intb, wF_str, wM_app, wM_popA, wM_join, wM_split, rcv_app, rcv_popA, rcv_join, rcv_split, wR_1, wR_2, wZ_3, wZ_2, walk_tup, walk_fl, wU_fl, wT_strs, at0, at1, at2, at3, at4, atL, items_tup, items_fl, true_and, Option.isSome_some, List.length_set, ixn_4_0, ixn_4_1, ixn_4_2, ixn_4_3, List.length_cons, List.length_nil, Nat.zero_add, Nat.reduceAdd, Nat.reduceLT, Nat.reduceLeDiff, ne_eq, Nat.reduceEqDiff, Int.reducePow, Int.reduceToNat, Int.reduceEq, Int.reduceLT, Int.reduceLE, Int.reduceNeg, not_false_eq_true, reduceIte, Bool.false_eq_true, List.map_cons, List.map_nil, List.eraseIdx_cons_zero, not_true_eq_false, Bool.not_true, Bool.not_false, List.length_append, List.append_assoc, List.cons_append, List.nil_append, List.append_nil, items_W, items_W0, items_c0, items_c1, items_c2, items_c3, items_c4, lst_W, lst_W0, lst_c0, lst_c1, lst_c2, lst_c3, set_W, wB_addl, Nat.add_assoc, items_cs, items_last, wI_strW, wC_in, wC_notin, opIn_sign, walk_str, wF_intS, wT_tt, wT_tl, wT_it, wT_il, wT_is, wT_ii, wT_ib, wF_all, isNon_non, isNon_int, isNon_ref, isNon_tup, isNon_str, items_V, lst_V, set_V, bls_repW, all_repW, lst_last, set_last, walk_c0, strs_mapD, wp_quiet, bind3, bind2, bindU2, bindU3, atLm, map_snoc_int, ints_mapD, items_ss, set_W0, Option.map_some, Nat.add_zero]
  obtain ⟨U2, hU2⟩ : ∃ U2, U2 = U ++ O.lst [D.int 1, D.int 4, D.int 11] :: G := ⟨_, rfl⟩
  rw [← hU2]
  refine take_q L h4 (by omega) (by omega) fun top T5 _ _ h5 => ?_
  try simp only [wE_var, wE_cst, wE_glb, wE_bin, wE_neg, wE_cmp, wE_chn, wE_band, wE_bor, wE_not, wE_ite, wE_tup, wE_lst, wE_ix, wE_slc, wE_call, wE_blt, wE_isi, wE_mth, wE_one, wE_comp, wE_fst, wL_nil, wL_cons, wO_none, wO_some, wC_none, wC_some, wF_nil, wF_cons, wI_seq, wI_rng, wI_zip, wI_enm, wB_add, wB_adds, wB_addt, wB_sub, wB_mul, wB_fdv, wB_mod, wB_pow, wC_lt, wC_le, wC_gt, wC_ge, wC_eq, wC_ne, wC_is, wC_isnot, eqD_int, eqD_str, eqD_bl, wI_ref, wI_tup, wS_exp, wS_nam, wS_sub, wS_tup, wS_par, wS_ret0, wS_ret, wS_ite, wS_for, wS_whl, wS_pass, wS_dead, wT_nil, wT_cons, onB_bl, onV_some, onO_some, onI_int, onZ_bl, List.getElem?_cons_zero, List.getElem?_cons_succ, List.set_cons_zero, List.set_cons_succ, decide_eq_true_eq, wF_len, wF_lent, wF_lens, wF_lst, wF_tup, wF_sum, wF_min, wF_max, wF_inti, wF_intb, wF_str, wM_app, wM_popA, wM_join, wM_split, rcv_app, rcv_popA, rcv_join, rcv_split, wR_1, wR_2, wZ_3, wZ_2, walk_tup, walk_fl, wU_fl, wT_strs, at0, at1, at2, at3, at4, atL, items_tup, items_fl, true_and, Option.isSome_some, List.length_set, ixn_4_0, ixn_4_1, ixn_4_2, ixn_4_3, List.length_cons, List.length_nil, Nat.zero_add, Nat.reduceAdd, Nat.reduceLT, Nat.reduceLeDiff, ne_eq, Nat.reduceEqDiff, Int.reducePow, Int.reduceToNat, Int.reduceEq, Int.reduceLT, Int.reduceLE, Int.reduceNeg, not_false_eq_true, reduceIte, Bool.false_eq_true, List.map_cons, List.map_nil, List.eraseIdx_cons_zero, not_true_eq_false, Bool.not_true, Bool.not_false, List.length_append, List.append_assoc, List.cons_append, List.nil_append, List.append_nil, items_W, items_W0, items_c0, items_c1, items_c2, items_c3, items_c4, lst_W, lst_W0, lst_c0, lst_c1, lst_c2, lst_c3, set_W, wB_addl, Nat.add_assoc, items_cs, items_last, wI_strW, wC_in, wC_notin, opIn_sign, walk_str, wF_intS, wT_tt, wT_tl, wT_it, wT_il, wT_is, wT_ii, wT_ib, wF_all, isNon_non, isNon_int, isNon_ref, isNon_tup, isNon_str, items_V, lst_V, set_V, bls_repW, all_repW, lst_last, set_last, walk_c0, strs_mapD, wp_quiet, bind3, bind2, bindU2, bindU3, atLm, map_snoc_int, ints_mapD, items_ss, set_W0, Option.map_some, Nat.add_zero]
  refine take_q L h5 (by omega) (by omega) fun hill T6 _ _ h6 => ?_
  simp only [wE_var, wE_cst, wE_glb, wE_bin, wE_neg, wE_cmp, wE_chn, wE_band, wE_bor, wE_not, wE_ite, wE_tup, wE_lst, wE_ix, wE_slc, wE_call, wE_blt, wE_isi, wE_mth, wE_one, wE_comp, wE_fst, wL_nil, wL_cons, wO_none, wO_some, wC_none, wC_some, wF_nil, wF_cons, wI_seq, wI_rng, wI_zip, wI_enm, wB_add, wB_adds, wB_addt, wB_sub, wB_mul, wB_fdv, wB_mod, wB_pow, wC_lt, wC_le, wC_gt, wC_ge, wC_eq, wC_ne, wC_is, wC_isnot, eqD_int, eqD_str, eqD_bl, wI_ref, wI_tup, wS_exp, wS_nam, wS_sub, wS_tup, wS_par, wS_ret0, wS_ret, wS_ite, wS_for, wS_whl, wS_pass, wS_dead, wT_nil, wT_cons, onB_bl, onV_some, onO_some, onI_int, onZ_bl, List.getElem?_cons_zero, List.getElem?_cons_succ, List.set_cons_zero, List.set_cons_succ, decide_eq_true_eq, wF_len, wF_lent, wF_lens, wF_lst, wF_tup, wF_sum, wF_min, wF_max, wF_inti, wF_intb, wF_str, wM_app, wM_popA, wM_join, wM_split, rcv_app, rcv_popA, rcv_join, rcv_split, wR_1, wR_2, wZ_3, wZ_2, walk_tup, walk_fl, wU_fl, wT_strs, at0, at1, at2, at3, at4, atL, items_tup, items_fl, true_and, Option.isSome_some, List.length_set, ixn_4_0, ixn_4_1, ixn_4_2, ixn_4_3, List.length_cons, List.length_nil, Nat.zero_add, Nat.reduceAdd, Nat.reduceLT, Nat.reduceLeDiff, ne_eq, Nat.reduceEqDiff, Int.reducePow, Int.reduceToNat, Int.reduceEq, Int.reduceLT, Int.reduceLE, Int.reduceNeg, not_false_eq_true, reduceIte, Bool.false_eq_true, List.map_cons, List.map_nil, List.eraseIdx_cons_zero, not_true_eq_false, Bool.not_true, Bool.not_false, List.length_append, List.append_assoc, List.cons_append, List.nil_append, List.append_nil, items_W, items_W0, items_c0, items_c1, items_c2, items_c3, items_c4, lst_W, lst_W0, lst_c0, lst_c1, lst_c2, lst_c3, set_W, wB_addl, Nat.add_assoc, items_cs, items_last, wI_strW, wC_in, wC_notin, opIn_sign, walk_str, wF_intS, wT_tt, wT_tl, wT_it, wT_il, wT_is, wT_ii, wT_ib, wF_all, isNon_non, isNon_int, isNon_ref, isNon_tup, isNon_str, items_V, lst_V, set_V, bls_repW, all_repW, lst_last, set_last, walk_c0, strs_mapD, wp_quiet, bind3, bind2, bindU2, bindU3, atLm, map_snoc_int, ints_mapD, items_ss, set_W0, Option.map_some, Nat.add_zero, h6.1]
  refine ⟨by decide, fits_w (by omega) (by omega), ?_⟩
  refine forW0 (fun i σ S => ∃ (gs : List D) (T' : Sto) (y6 y7 : Option D), σ = [some (.ref t), some (.int (1 + w)), some (.tup ps), some (.int top), some (.int hill), some (.ref (l + U2.length)), y6, y7] ∧ S = T' ++ (U2 ++ [.lst gs]) ∧ Tp t l T' ∧ (∀ g ∈ gs, g = .str ("up" : Str) ∨ g = .str ("down" : Str)) ∧ gs.length = i)
    ⟨[], T6, none, none, rfl, rfl, h6, (fun p z => by cases z), rfl⟩ ?_ ?_
  · rintro i d σ S ⟨gs, T', y6, y7, rfl, rfl, hT, hgs, hlen⟩ hd
    obtain ⟨hi, rfl⟩ := rngD_get hd
    have hl := hT.1
    have hsz : gs.length < sizeLine := by
      have : sizeLine = 16777216 := rfl
      omega
    have fin : ∀ (T2 : Sto) (z6 : D) (b : Bool), Tp t l T2 → ((gs.length < sizeLine) ∧ ∃ (gs' : List D) (T' : Sto) (y6 y7 : Option D), [some (D.ref t), some (.int (1 + w)), some (.tup ps), some (.int top), some (.int hill), some (.ref (l + U2.length)), some z6, some (.bl b)] = [some (D.ref t), some (.int (1 + w)), some (.tup ps), some (.int top), some (.int hill), some (.ref (l + U2.length)), y6, y7] ∧ T2 ++ (U2 ++ [.lst (gs ++ [if b = true then D.str ("up" : Str) else .str ("down" : Str)])]) = T' ++ (U2 ++ [.lst gs']) ∧ Tp t l T' ∧ (∀ g ∈ gs', g = .str ("up" : Str) ∨ g = .str ("down" : Str)) ∧ gs'.length = i + 1) := by
      intro T2 z6 b h2
      refine ⟨hsz, _, _, _, _, rfl, rfl, h2, fun g hg => ?_, by simp [hlen]⟩
      rcases List.mem_append.1 hg with hg | hg
      · exact hgs g hg
      · cases List.mem_singleton.1 hg
        cases b
        · exact .inr rfl
        · exact .inl rfl
    simp only [bind1, wE_var, wE_cst, wE_glb, wE_bin, wE_neg, wE_cmp, wE_chn, wE_band, wE_bor, wE_not, wE_ite, wE_tup, wE_lst, wE_ix, wE_slc, wE_call, wE_blt, wE_isi, wE_mth, wE_one, wE_comp, wE_fst, wL_nil, wL_cons, wO_none, wO_some, wC_none, wC_some, wF_nil, wF_cons, wI_seq, wI_rng, wI_zip, wI_enm, wB_add, wB_adds, wB_addt, wB_sub, wB_mul, wB_fdv, wB_mod, wB_pow, wC_lt, wC_le, wC_gt, wC_ge, wC_eq, wC_ne, wC_is, wC_isnot, eqD_int, eqD_str, eqD_bl, wI_ref, wI_tup, wS_exp, wS_nam, wS_sub, wS_tup, wS_par, wS_ret0, wS_ret, wS_ite, wS_for, wS_whl, wS_pass, wS_dead, wT_nil, wT_cons, onB_bl, onV_some, onO_some, onI_int, onZ_bl, List.getElem?_cons_zero, List.getElem?_cons_succ, List.set_cons_zero, List.set_cons_succ, decide_eq_true_eq, wF_len, wF_lent, wF_lens, wF_lst, wF_tup, wF_sum, wF_min, wF_max, wF_inti, wF_intb, wF_str, wM_app, wM_popA, wM_join, wM_split, rcv_app, rcv_popA, rcv_join, rcv_split, wR_1, wR_2, wZ_3, wZ_2, walk_tup, walk_fl, wU_fl, wT_strs, at0, at1, at2, at3, at4, atL, items_tup, items_fl, true_and, Option.isSome_some, List.length_set, ixn_4_0, ixn_4_1, ixn_4_2, ixn_4_3, List.length_cons, List.length_nil, Nat.zero_add, Nat.reduceAdd, Nat.reduceLT, Nat.reduceLeDiff, ne_eq, Nat.reduceEqDiff, Int.reducePow, Int.reduceToNat, Int.reduceEq, Int.reduceLT, Int.reduceLE, Int.reduceNeg, not_false_eq_true, reduceIte, Bool.false_eq_true, List.map_cons, List.map_nil, List.eraseIdx_cons_zero, not_true_eq_false, Bool.not_true, Bool.not_false, List.length_append, List.append_assoc, List.cons_append, List.nil_append, List.append_nil, items_W, items_W0, items_c0, items_c1, items_c2, items_c3, items_c4, lst_W, lst_W0, lst_c0, lst_c1, lst_c2, lst_c3, set_W, wB_addl, Nat.add_assoc, items_cs, items_last, wI_strW, wC_in, wC_notin, opIn_sign, walk_str, wF_intS, wT_tt, wT_tl, wT_it, wT_il, wT_is, wT_ii, wT_ib, wF_all, isNon_non, isNon_int, isNon_ref, isNon_tup, isNon_str, items_V, lst_V, set_V, bls_repW, all_repW, lst_last, set_last, walk_c0, strs_mapD, wp_quiet, bind3, bind2, bindU2, bindU3, atLm, map_snoc_int, ints_mapD, items_ss, set_W0, Option.map_some, Nat.add_zero, hl]
    refine ifI (fun _ => take_q L hT (by omega) (by omega) fun u T2 _ _ h2 => ?_) fun _ => ?_
    · simp only [wE_var, wE_cst, wE_glb, wE_bin, wE_neg, wE_cmp, wE_chn, wE_band, wE_bor, wE_not, wE_ite, wE_tup, wE_lst, wE_ix, wE_slc, wE_call, wE_blt, wE_isi, wE_mth, wE_one, wE_comp, wE_fst, wL_nil, wL_cons, wO_none, wO_some, wC_none, wC_some, wF_nil, wF_cons, wI_seq, wI_rng, wI_zip, wI_enm, wB_add, wB_adds, wB_addt, wB_sub, wB_mul, wB_fdv, wB_mod, wB_pow, wC_lt, wC_le, wC_gt, wC_ge, wC_eq, wC_ne, wC_is, wC_isnot, eqD_int, eqD_str, eqD_bl, wI_ref, wI_tup, wS_exp, wS_nam, wS_sub, wS_tup, wS_par, wS_ret0, wS_ret, wS_ite, wS_for, wS_whl, wS_pass, wS_dead, wT_nil, wT_cons, onB_bl, onV_some, onO_some, onI_int, onZ_bl, List.getElem?_cons_zero, List.getElem?_cons_succ, List.set_cons_zero, List.set_cons_succ, decide_eq_true_eq, wF_len, wF_lent, wF_lens, wF_lst, wF_tup, wF_sum, wF_min, wF_max, wF_inti, wF_intb, wF_str, wM_app, wM_popA, wM_join, wM_split, rcv_app, rcv_popA, rcv_join, rcv_split, wR_1, wR_2, wZ_3, wZ_2, walk_tup, walk_fl, wU_fl, wT_strs, at0, at1, at2, at3, at4, atL, items_tup, items_fl, true_and, Option.isSome_some, List.length_set, ixn_4_0, ixn_4_1, ixn_4_2, ixn_4_3, List.length_cons, List.length_nil, Nat.zero_add, Nat.reduceAdd, Nat.reduceLT, Nat.reduceLeDiff, ne_eq, Nat.reduceEqDiff, Int.reducePow, Int.reduceToNat, Int.reduceEq, Int.reduceLT, Int.reduceLE, Int.reduceNeg, not_false_eq_true, reduceIte, Bool.false_eq_true, List.map_cons, List.map_nil, List.eraseIdx_cons_zero, not_true_eq_false, Bool.not_true, Bool.not_false, List.length_append, List.append_assoc, List.cons_append, List.nil_append, List.append_nil, items_W, items_W0, items_c0, items_c1, items_c2, items_c3, items_c4, lst_W, lst_W0, lst_c0, lst_c1, lst_c2, lst_c3, set_W, wB_addl, Nat.add_assoc, items_cs, items_last, wI_strW, wC_in, wC_notin, opIn_sign, walk_str, wF_intS, wT_tt, wT_tl, wT_it, wT_il, wT_is, wT_ii, wT_ib, wF_all, isNon_non, isNon_int, isNon_ref, isNon_tup, isNon_str, items_V, lst_V, set_V, bls_repW, all_repW, lst_last, set_last, walk_c0, strs_mapD, wp_quiet, bind3, bind2, bindU2, bindU3, atLm, map_snoc_int, ints_mapD, items_ss, set_W0, Option.map_some, Nat.add_zero, h2.1]
      refine ifI (fun e => ?_) fun e => ?_
      · have := fin T2 (.int (0 + i)) (decide (u = 1)) h2
        simpa only [e, decide_true, if_true] using this
      · have := fin T2 (.int (0 + i)) (decide (u = 1)) h2
        simpa only [e, decide_false, Bool.false_eq_true, if_false] using this
    · refine ifI (fun e => ?_) fun e => ?_
      · have := fin T' (.int (0 + i)) (decide ((0 + (i : Int)) < top)) hT
        simpa only [e, decide_true, if_true] using this
      · have := fin T' (.int (0 + i)) (decide ((0 + (i : Int)) < top)) hT
        simpa only [e, decide_false, Bool.false_eq_true, if_false] using this
  · rintro σ S ⟨gs, T', y6, y7, rfl, rfl, hT, hgs, hlen⟩
    rw [rngD_len] at hlen
    simp only [wE_var, wE_cst, wE_glb, wE_bin, wE_neg, wE_cmp, wE_chn, wE_band, wE_bor, wE_not, wE_ite, wE_tup, wE_lst, wE_ix, wE_slc, wE_call, wE_blt, wE_isi, wE_mth, wE_one, wE_comp, wE_fst, wL_nil, wL_cons, wO_none, wO_some, wC_none, wC_some, wF_nil, wF_cons, wI_seq, wI_rng, wI_zip, wI_enm, wB_add, wB_adds, wB_addt, wB_sub, wB_mul, wB_fdv, wB_mod, wB_pow, wC_lt, wC_le, wC_gt, wC_ge, wC_eq, wC_ne, wC_is, wC_isnot, eqD_int, eqD_str, eqD_bl, wI_ref, wI_tup, wS_exp, wS_nam, wS_sub, wS_tup, wS_par, wS_ret0, wS_ret, wS_ite, wS_for, wS_whl, wS_pass, wS_dead, wT_nil, wT_cons, onB_bl, onV_some, onO_some, onI_int, onZ_bl, List.getElem?_cons_zero, List.getElem?_cons_succ, List.set_cons_zero, List.set_cons_succ, decide_eq_true_eq, wF_len, wF_lent, wF_lens, wF_lst, wF_tup, wF_sum, wF_min, wF_max, wF_inti, wF_intb, wF_str, wM_app, wM_popA, wM_join, wM_split, rcv_app, rcv_popA, rcv_join, rcv_split, wR_1, wR_2, wZ_3, wZ_2, walk_tup, walk_fl, wU_fl, wT_strs, at0, at1, at2, at3, at4, atL, items_tup, items_fl, true_and, Option.isSome_some, List.length_set, ixn_4_0, ixn_4_1, ixn_4_2, ixn_4_3, List.length_cons, List.length_nil, Nat.zero_add, Nat.reduceAdd, Nat.reduceLT, Nat.reduceLeDiff, ne_eq, Nat.reduceEqDiff, Int.reducePow, Int.reduceToNat, Int.reduceEq, Int.reduceLT, Int.reduceLE, Int.reduceNeg, not_false_eq_true, reduceIte, Bool.false_eq_true, List.map_cons, List.map_nil, List.eraseIdx_cons_zero, not_true_eq_false, Bool.not_true, Bool.not_false, List.length_append, List.append_assoc, List.cons_append, List.nil_append, List.append_nil, items_W, items_W0, items_c0, items_c1, items_c2, items_c3, items_c4, lst_W, lst_W0, lst_c0, lst_c1, lst_c2, lst_c3, set_W, wB_addl, Nat.add_assoc, items_cs, items_last, wI_strW, wC_in, wC_notin, opIn_sign, walk_str, wF_intS, wT_tt, wT_tl, wT_it, wT_il, wT_is, wT_ii, wT_ib, wF_all, isNon_non, isNon_int, isNon_ref, isNon_tup, isNon_str, items_V, lst_V, set_V, bls_repW, all_repW, lst_last, set_last, walk_c0, strs_mapD, wp_quiet, bind3, bind2, bindU2, bindU3, atLm, map_snoc_int, ints_mapD, items_ss, set_W0, Option.map_some, Nat.add_zero, hT.1]
    refine ⟨by decide, ?_⟩
    have := q ps gs T' (O.lst [D.int 1, D.int 4, D.int 11] :: (G ++ [.lst gs])) hps (by omega) (by omega) hgs (by omega) hz0 hz1 hT
    rw [hU2, List.append_assoc]
    exact this
end
end Swl

set_option Elab.async false
set_option linter.all false
set_option maxRecDepth 100000
set_option maxHeartbeats 1000000
namespace Swl
open PySem PySem.Spec PyProof.Rows L2 Sw K80
/-- whole numbers from lo to hi -/
def In (lo hi : Int) (ns : List Int) : Prop := ∀ x ∈ ns, lo ≤ x ∧ x ≤ hi
theorem In.snoc {lo hi : Int} {ns : List Int} {x : Int} (h : In lo hi ns) (a : lo ≤ x) (b : x ≤ hi) : In lo hi (ns ++ [x]) := fun y hy => by
  rcases List.mem_append.1 hy with hy | hy
  · exact h y hy
  · cases List.mem_singleton.1 hy
    exact ⟨a, b⟩
theorem In.set {lo hi : Int} {ns : List Int} {x : Int} {i : Nat} (h : In lo hi ns) (a : lo ≤ x) (b : x ≤ hi) : In lo hi (ns.set i x) := fun y hy => by
  rcases List.mem_or_eq_of_mem_set hy with hy | rfl
  · exact h y hy
  · exact ⟨a, b⟩
theorem In.sum_le {hi : Int} (h0 : 0 ≤ hi) : ∀ {ns : List Int}, In 0 hi ns → 0 ≤ ns.sum ∧ ns.sum ≤ hi * ns.length
  | [], _ => by simp
  | n :: ns, h => by
    have h1 := h n (List.mem_cons_self ..)
    have h2 := In.sum_le h0 (fun x hx => h x (List.mem_cons_of_mem _ hx))
    simp only [List.sum_cons, List.length_cons]
    have : hi * ((ns.length + 1 : Nat) : Int) = hi * ns.length + hi := by
      rw [Int.natCast_add, Int.mul_add]
      simp
    omega
theorem map_int_at {ns : List Int} {i : Nat} (h : i < ns.length) : ∃ x, (ns.map D.int)[i]? = some (.int x) ∧ x ∈ ns := by
  exact ⟨ns[i], by rw [List.getElem?_map, List.getElem?_eq_getElem h]; rfl, List.getElem_mem h⟩
theorem items_c0m {ns : List Int} {W : Sto} : items? (.lst (ns.map D.int) :: W) (.ref 0) = some (ns.map D.int) := rfl
/-- a place's part of a stand -/
inductive Fit : D → Int → Int → Int → Prop where
  | nd (r f : Int) : 0 ≤ r → 0 ≤ f → Fit E0 0 r f
  | ch (l r f : Int) : 0 ≤ l → l ≤ 1 → 0 ≤ r → 0 ≤ f → r + f ≤ 1 → Fit (.tup [.str ("chamber" : Str)]) l r f
  | po (b d m : Int) (p : D) (l r f : Int) : 0 ≤ l → l ≤ b → 0 ≤ r → 0 ≤ f → r + f ≤ m → Fit (.tup [.str ("pound" : Str), .int b, .int d, .int m, p]) l r f
theorem Fit.nd' {d : D} {l r f r' f' : Int} (h : Fit d l r f) (e : d = E0) (h1 : 0 ≤ r') (h2 : 0 ≤ f') : Fit d l r' f' := by
  cases h with
  | nd => exact .nd _ _ h1 h2
  | ch => exact absurd (D.str.inj (List.cons.inj (D.tup.inj e)).1) (by decide)
  | po => exact absurd (D.str.inj (List.cons.inj (D.tup.inj e)).1) (by decide)
theorem Fit.pos {d : D} {l r f : Int} (h : Fit d l r f) : 0 ≤ l ∧ 0 ≤ r ∧ 0 ≤ f := by
  cases h with
  | nd _ _ h1 h2 => exact ⟨Int.le_refl _, h1, h2⟩
  | ch _ _ _ h1 h2 h3 h4 => exact ⟨h1, h3, h4⟩
  | po _ _ _ _ _ _ _ h1 h2 h3 h4 => exact ⟨h1, h3, h4⟩
def Fits (ps : List D) (lv r0 r1 : List Int) : Prop := ∀ (j : Nat) (d : D) (l r f : Int), ps[j]? = some d → lv[j]? = some l → r0[j]? = some r → r1[j]? = some f → Fit d l r f
theorem snoc_get {α : Type} {l : List α} {x y : α} {j : Nat} (h : (l ++ [x])[j]? = some y) : l[j]? = some y ∨ (j = l.length ∧ y = x) := by
  by_cases hj : j < l.length
  · rw [List.getElem?_append_left hj] at h
    exact .inl h
  · have hlt := (List.getElem?_eq_some_iff.1 h).1
    simp at hlt
    have : j = l.length := by omega
    subst this
    simp at h
    exact .inr ⟨rfl, h.symm⟩
theorem Fits.snoc {ps : List D} {lv r0 r1 : List Int} {i : Nat} {d : D} {l r f : Int} (h : Fits ps lv r0 r1) (e1 : lv.length = i) (e2 : r0.length = i) (e3 : r1.length = i) (hd : ps[i]? = some d) (k : Fit d l r f) : Fits ps (lv ++ [l]) (r0 ++ [r]) (r1 ++ [f]) := by
  intro j d' l' r' f' h1 h2 h3 h4
  rcases snoc_get h2 with a | ⟨a1, a2⟩
  · have hj := (List.getElem?_eq_some_iff.1 a).1
    rcases snoc_get h3 with b | ⟨b, _⟩
    · rcases snoc_get h4 with c | ⟨c, _⟩
      · exact h j _ _ _ _ h1 a b c
      · omega
    · omega
  · rcases snoc_get h3 with b | ⟨_, b⟩
    · have := (List.getElem?_eq_some_iff.1 b).1
      omega
    · rcases snoc_get h4 with c | ⟨_, c⟩
      · have := (List.getElem?_eq_some_iff.1 c).1
        omega
      · subst a2 b c
        rw [a1, e1, hd] at h1
        cases h1
        exact k
theorem set_get {ns : List Int} {x j : Nat} {v y : Int} (h : (ns.set x v)[j]? = some y) : (j = x ∧ y = v) ∨ (j ≠ x ∧ ns[j]? = some y) := by
  by_cases hj : x = j
  · subst hj
    have hlt := (List.getElem?_eq_some_iff.1 h).1
    rw [List.getElem?_set_self (by simpa using hlt)] at h
    exact .inl ⟨rfl, (Option.some.inj h).symm⟩
  · rw [List.getElem?_set_ne hj] at h
    exact .inr ⟨fun e => hj e.symm, h⟩
theorem Fits.set0 {ps : List D} {lv r0 r1 : List Int} {x : Nat} {v : Int} (h : Fits ps lv r0 r1) (hx : ps[x]? = some E0) (e2 : x < r0.length) (hv : 0 ≤ v) : Fits ps lv (r0.set x v) r1 := by
  intro j d l r f h1 h2 h3 h4
  rcases set_get h3 with ⟨rfl, rfl⟩ | ⟨hj, h3⟩
  · rw [hx] at h1
    cases h1
    have := h j _ _ _ _ hx h2 (List.getElem?_eq_getElem e2) h4
    exact this.nd' rfl hv this.pos.2.2
  · exact h j _ _ _ _ h1 h2 h3 h4
theorem Fits.set1 {ps : List D} {lv r0 r1 : List Int} {x : Nat} {v : Int} (h : Fits ps lv r0 r1) (hx : ps[x]? = some E0) (e2 : x < r1.length) (hv : 0 ≤ v) : Fits ps lv r0 (r1.set x v) := by
  intro j d l r f h1 h2 h3 h4
  rcases set_get h4 with ⟨rfl, rfl⟩ | ⟨hj, h4⟩
  · rw [hx] at h1
    cases h1
    have := h j _ _ _ _ hx h2 h3 (List.getElem?_eq_getElem e2)
    exact this.nd' rfl this.pos.2.1 hv
  · exact h j _ _ _ _ h1 h2 h3 h4
theorem sum_set {hi : Int} : ∀ {ns : List Int} {x : Nat} {v : Int}, In 0 hi ns → 0 ≤ v → (ns.set x v).sum ≤ ns.sum + v
  | [], _, v, _, hv => by simp; exact hv
  | n :: ns, 0, v, h, hv => by
    have := (h n (List.mem_cons_self ..)).1
    simp only [List.set_cons_zero, List.sum_cons]
    omega
  | n :: ns, x + 1, v, h, hv => by
    have := sum_set (x := x) (fun y hy => h y (List.mem_cons_of_mem _ hy)) hv
    simp only [List.set_cons_succ, List.sum_cons]
    omega
section
variable {Tb : Tab} {gl : GL}
theorem stand_w (L : Lk Tb) (L3 : Tb.lookup ("_law_stand" : Str) = some d__law_stand) {n t l : Nat} {T U : Sto} {ps : List D} {gs : D} (h : Tp t l T) (hps : ∀ p ∈ ps, Pl p) (hp1 : 3 ≤ ps.length) (hp2 : ps.length ≤ 13) (hz0 : ps[0]? = some E0) (hz1 : ps[ps.length - 1]? = some E0) {Q : D → Sto → Prop} {X : XR}
    (q : ∀ (lv r0 r1 : List Int) T' G, In 0 9 lv → In 0 60 r0 → In 0 60 r1 → lv.length = ps.length → r0.length = ps.length → r1.length = ps.length → Fits ps lv r0 r1 → r0.sum + r1.sum ≤ 60 → Tp t l T' → Q (.tup [.tup (lv.map D.int), .tup (r0.map D.int), .tup (r1.map D.int)]) (T' ++ (U ++ G))) : (callN Tb gl (n + 3) ("_law_stand" : Str) [.ref t, .tup [.tup ps, gs]] (T ++ U)).wp Q X := by
  rw [callW (σ := [some (.ref t), some (.tup [.tup ps, gs]), none, none, none, none, none, none, none, none, none]) L3 rfl rfl]
  have hl := h.1
  have ne1 : ¬(("end" : Str) = ("chamber" : Str)) := by decide
  have ne2 : ¬(("end" : Str) = ("pound" : Str)) := by decide
  have ne3 : ¬(("chamber" : Str) = ("pound" : Str)) := by decide
  have ne4 : ¬(("pound" : Str) = ("chamber" : Str)) := by decide
  have hsl : sizeLine = 16777216 := rfl
  simp only [d__law_stand, wE_var, wE_cst, wE_glb, wE_bin, wE_neg, wE_cmp, wE_chn, wE_band, wE_bor, wE_not, wE_ite, wE_tup, wE_lst, wE_ix, wE_slc, wE_call, wE_blt, wE_isi, wE_mth, wE_one, wE_comp, wE_fst, wL_nil, wL_cons, wO_none, wO_some, wC_none, wC_some, wF_nil, wF_cons, wI_seq, wI_rng, wI_zip, wI_enm, wB_add, wB_adds, wB_addt, wB_sub, wB_mul, wB_fdv, wB_mod, wB_pow, wC_lt, wC_le, wC_gt, wC_ge, wC_eq, wC_ne, wC_is, wC_isnot, eqD_int, eqD_str, eqD_bl, wI_ref, wI_tup, wS_exp, wS_nam, wS_sub, wS_tup, wS_par, wS_ret0, wS_ret, wS_ite, wS_for, wS_whl, wS_pass, wS_dead, wT_nil, wT_cons, onB_bl, onV_some, onO_some, onI_int, onZ_bl, List.getElem?_cons_zero, List.getElem?_cons_succ, List.set_cons_zero, List.set_cons_succ, decide_eq_true_eq, wF_len, wF_lent, wF_lens, wF_lst, wF_tup, wF_sum, wF_min, wF_max, wF_inti, wF_intb, wF_str, wM_app, wM_popA, wM_join, wM_split, rcv_app, rcv_popA, rcv_join, rcv_split, wR_1, wR_2, wZ_3, wZ_2, walk_tup, walk_fl, wU_fl, wT_strs, at0, at1, at2, at3, at4, atL, items_tup, items_fl, true_and, Option.isSome_some, List.length_set, ixn_4_0, ixn_4_1, ixn_4_2, ixn_4_3, List.length_cons, List.length_nil, Nat.zero_add, Nat.reduceAdd, Nat.reduceLT, Nat.reduceLeDiff, ne_eq, Nat.reduceEqDiff, Int.reducePow, Int.reduceToNat, Int.reduceEq, Int.reduceLT, Int.reduceLE, Int.reduceNeg, not_false_eq_true, reduceIte, Bool.false_eq_true, List.map_cons, List.map_nil, List.eraseIdx_cons_zero, not_true_eq_false, Bool.not_true, Bool.not_false, List.length_append, List.append_assoc, List.cons_append, List.nil_append, List.append_nil, items_W, items_W0, items_c0, items_c1, items_c2, items_c3, items_c4, lst_W, lst_W0, lst_c0, lst_c1, lst_c2, lst_c3, set_W, wB_addl, Nat.add_assoc, items_cs, items_last, wI_strW, wC_in, wC_notin, opIn_sign, walk_str, wF_intS, wT_tt, wT_tl, wT_it, wT_il, wT_is, wT_ii, wT_ib, wF_all, isNon_non, isNon_int, isNon_ref, isNon_tup, isNon_str, items_V, lst_V, set_V, bls_repW, all_repW, lst_last, set_last, walk_c0, strs_mapD, wp_quiet, bind3, bind2, bindU2, bindU3, atLm, map_snoc_int, ints_mapD, items_ss, set_W0, Option.map_some, Nat.add_zero, hl]
  refine ⟨by decide, by decide, by decide, by decide, ?_⟩
  refine forW0 (fun i σ S => ∃ (lv r0 r1 : List Int) (T' : Sto) (y4 y5 y6 y7 y8 y9 y10 : Option D), σ = [some (.ref t), some (.tup [.tup ps, gs]), some (.ref (l + U.length)), some (.ref (l + (U.length + 3))), y4, y5, y6, y7, y8, y9, y10] ∧
      S = T' ++ (U ++ [.lst (lv.map D.int), .lst (r0.map D.int), .lst (r1.map D.int), .lst [.ref (l + (U.length + 1)), .ref (l + (U.length + 2))]]) ∧ Tp t l T' ∧ In 0 9 lv ∧ In 0 4 r0 ∧ In 0 4 r1 ∧ lv.length = i ∧ r0.length = i ∧ r1.length = i ∧ r0.sum + r1.sum ≤ 4 * (i : Int) ∧ Fits ps lv r0 r1)
    ⟨[], [], [], T, none, none, none, none, none, none, none, rfl, rfl, h, (fun p z => by cases z), (fun p z => by cases z), (fun p z => by cases z), rfl, rfl, rfl, by decide, fun j d l r f _ z => by simp at z⟩ ?_ ?_
  · rintro i d σ S ⟨lv, r0, r1, T', y4, y5, y6, y7, y8, y9, y10, rfl, rfl, hT, hlv, hr0, hr1, e1, e2, e3, e4, hF⟩ hd
    have hi : i < ps.length := (List.getElem?_eq_some_iff.1 hd).1
    have hd2 : Pl d := hps d (List.mem_of_getElem? hd)
    have fin : ∀ (v w u : Int) (T2 : Sto) (y4 y7 y8 : Option D), Tp t l T2 → 0 ≤ v → v ≤ 9 → 0 ≤ w → w ≤ 4 → 0 ≤ u → u ≤ w → Fit d v u (w - u) →
      ∃ (lv' r0' r1' : List Int) (T' : Sto) (y4' y5' y6' y7' y8' y9' y10' : Option D), [some (D.ref t), some (.tup [.tup ps, gs]), some (.ref (l + U.length)), some (.ref (l + (U.length + 3))), y4, y5, y6, y7, y8, some (.int w), y10] = [some (.ref t), some (.tup [.tup ps, gs]), some (.ref (l + U.length)), some (.ref (l + (U.length + 3))), y4', y5', y6', y7', y8', y9', y10'] ∧
      T2 ++ (U ++ [.lst ((lv ++ [v]).map D.int), .lst ((r0 ++ [u]).map D.int), .lst ((r1 ++ [w - u]).map D.int), .lst [.ref (l + (U.length + 1)), .ref (l + (U.length + 2))]]) = T' ++ (U ++ [.lst (lv'.map D.int), .lst (r0'.map D.int), .lst (r1'.map D.int), .lst [.ref (l + (U.length + 1)), .ref (l + (U.length + 2))]]) ∧ Tp t l T' ∧ In 0 9 lv' ∧ In 0 4 r0' ∧ In 0 4 r1' ∧ lv'.length = i + 1 ∧ r0'.length = i + 1 ∧ r1'.length = i + 1 ∧ r0'.sum + r1'.sum ≤ 4 * ((i + 1 : Nat) : Int) ∧ Fits ps lv' r0' r1' := by
      intro v w u T2 y4 y7 y8 h2 v0 v1 w0 w1 u0 u1 hk
      refine ⟨_, _, _, T2, _, _, _, _, _, _, _, rfl, rfl, h2, hlv.snoc v0 v1, hr0.snoc u0 (by omega), hr1.snoc (by omega) (by omega), by simp [e1], by simp [e2], by simp [e3], ?_, hF.snoc e1 e2 e3 hd hk⟩
      simp only [List.sum_append, List.sum_cons, List.sum_nil]
      omega
    have hl := hT.1
    cases hd2 with
    | nd =>
      simp only [bind1, wE_var, wE_cst, wE_glb, wE_bin, wE_neg, wE_cmp, wE_chn, wE_band, wE_bor, wE_not, wE_ite, wE_tup, wE_lst, wE_ix, wE_slc, wE_call, wE_blt, wE_isi, wE_mth, wE_one, wE_comp, wE_fst, wL_nil, wL_cons, wO_none, wO_some, wC_none, wC_some, wF_nil, wF_cons, wI_seq, wI_rng, wI_zip, wI_enm, wB_add, wB_adds, wB_addt, wB_sub, wB_mul, wB_fdv, wB_mod, wB_pow, wC_lt, wC_le, wC_gt, wC_ge, wC_eq, wC_ne, wC_is, wC_isnot, eqD_int, eqD_str, eqD_bl, wI_ref, wI_tup, wS_exp, wS_nam, wS_sub, wS_tup, wS_par, wS_ret0, wS_ret, wS_ite, wS_for, wS_whl, wS_pass, wS_dead, wT_nil, wT_cons, onB_bl, onV_some, onO_some, onI_int, onZ_bl, List.getElem?_cons_zero, List.getElem?_cons_succ, List.set_cons_zero, List.set_cons_succ, decide_eq_true_eq, wF_len, wF_lent, wF_lens, wF_lst, wF_tup, wF_sum, wF_min, wF_max, wF_inti, wF_intb, wF_str, wM_app, wM_popA, wM_join, wM_split, rcv_app, rcv_popA, rcv_join, rcv_split, wR_1, wR_2, wZ_3, wZ_2, walk_tup, walk_fl, wU_fl, wT_strs, at0, at1, at2, at3, at4, atL, items_tup, items_fl, true_and, Option.isSome_some, List.length_set, ixn_4_0, ixn_4_1, ixn_4_2, ixn_4_3, List.length_cons, List.length_nil, Nat.zero_add, Nat.reduceAdd, Nat.reduceLT, Nat.reduceLeDiff, ne_eq, Nat.reduceEqDiff, Int.reducePow, Int.reduceToNat, Int.reduceEq, Int.reduceLT, Int.reduceLE, Int.reduceNeg, not_false_eq_true, reduceIte, Bool.false_eq_true, List.map_cons, List.map_nil, List.eraseIdx_cons_zero, not_true_eq_false, Bool.not_true, Bool.not_false, List.length_append, List.append_assoc, List.cons_append, List.nil_append, List.append_nil, items_W, items_W0, items_c0, items_c1, items_c2, items_c3, items_c4, lst_W, lst_W0, lst_c0, lst_c1, lst_c2, lst_c3, set_W, wB_addl, Nat.add_assoc, items_cs, items_last, wI_strW, wC_in, wC_notin, opIn_sign, walk_str, wF_intS, wT_tt, wT_tl, wT_it, wT_il, wT_is, wT_ii, wT_ib, wF_all, isNon_non, isNon_int, isNon_ref, isNon_tup, isNon_str, items_V, lst_V, set_V, bls_repW, all_repW, lst_last, set_last, walk_c0, strs_mapD, wp_quiet, bind3, bind2, bindU2, bindU3, atLm, map_snoc_int, ints_mapD, items_ss, set_W0, Option.map_some, Nat.add_zero, hl, ne1, ne2, ne3, ne4]
      refine take_q L hT (by omega) (by omega) fun v T2 v0 v1 h2 => ?_
      simp only [wE_var, wE_cst, wE_glb, wE_bin, wE_neg, wE_cmp, wE_chn, wE_band, wE_bor, wE_not, wE_ite, wE_tup, wE_lst, wE_ix, wE_slc, wE_call, wE_blt, wE_isi, wE_mth, wE_one, wE_comp, wE_fst, wL_nil, wL_cons, wO_none, wO_some, wC_none, wC_some, wF_nil, wF_cons, wI_seq, wI_rng, wI_zip, wI_enm, wB_add, wB_adds, wB_addt, wB_sub, wB_mul, wB_fdv, wB_mod, wB_pow, wC_lt, wC_le, wC_gt, wC_ge, wC_eq, wC_ne, wC_is, wC_isnot, eqD_int, eqD_str, eqD_bl, wI_ref, wI_tup, wS_exp, wS_nam, wS_sub, wS_tup, wS_par, wS_ret0, wS_ret, wS_ite, wS_for, wS_whl, wS_pass, wS_dead, wT_nil, wT_cons, onB_bl, onV_some, onO_some, onI_int, onZ_bl, List.getElem?_cons_zero, List.getElem?_cons_succ, List.set_cons_zero, List.set_cons_succ, decide_eq_true_eq, wF_len, wF_lent, wF_lens, wF_lst, wF_tup, wF_sum, wF_min, wF_max, wF_inti, wF_intb, wF_str, wM_app, wM_popA, wM_join, wM_split, rcv_app, rcv_popA, rcv_join, rcv_split, wR_1, wR_2, wZ_3, wZ_2, walk_tup, walk_fl, wU_fl, wT_strs, at0, at1, at2, at3, at4, atL, items_tup, items_fl, true_and, Option.isSome_some, List.length_set, ixn_4_0, ixn_4_1, ixn_4_2, ixn_4_3, List.length_cons, List.length_nil, Nat.zero_add, Nat.reduceAdd, Nat.reduceLT, Nat.reduceLeDiff, ne_eq, Nat.reduceEqDiff, Int.reducePow, Int.reduceToNat, Int.reduceEq, Int.reduceLT, Int.reduceLE, Int.reduceNeg, not_false_eq_true, reduceIte, Bool.false_eq_true, List.map_cons, List.map_nil, List.eraseIdx_cons_zero, not_true_eq_false, Bool.not_true, Bool.not_false, List.length_append, List.append_assoc, List.cons_append, List.nil_append, List.append_nil, items_W, items_W0, items_c0, items_c1, items_c2, items_c3, items_c4, lst_W, lst_W0, lst_c0, lst_c1, lst_c2, lst_c3, set_W, wB_addl, Nat.add_assoc, items_cs, items_last, wI_strW, wC_in, wC_notin, opIn_sign, walk_str, wF_intS, wT_tt, wT_tl, wT_it, wT_il, wT_is, wT_ii, wT_ib, wF_all, isNon_non, isNon_int, isNon_ref, isNon_tup, isNon_str, items_V, lst_V, set_V, bls_repW, all_repW, lst_last, set_last, walk_c0, strs_mapD, wp_quiet, bind3, bind2, bindU2, bindU3, atLm, map_snoc_int, ints_mapD, items_ss, set_W0, Option.map_some, Nat.add_zero, h2.1]
      refine ⟨by rw [List.length_map]; omega, take_q L h2 (by omega) (by omega) fun w T3 w0 w1 h3 => ?_⟩
      simp only [wE_var, wE_cst, wE_glb, wE_bin, wE_neg, wE_cmp, wE_chn, wE_band, wE_bor, wE_not, wE_ite, wE_tup, wE_lst, wE_ix, wE_slc, wE_call, wE_blt, wE_isi, wE_mth, wE_one, wE_comp, wE_fst, wL_nil, wL_cons, wO_none, wO_some, wC_none, wC_some, wF_nil, wF_cons, wI_seq, wI_rng, wI_zip, wI_enm, wB_add, wB_adds, wB_addt, wB_sub, wB_mul, wB_fdv, wB_mod, wB_pow, wC_lt, wC_le, wC_gt, wC_ge, wC_eq, wC_ne, wC_is, wC_isnot, eqD_int, eqD_str, eqD_bl, wI_ref, wI_tup, wS_exp, wS_nam, wS_sub, wS_tup, wS_par, wS_ret0, wS_ret, wS_ite, wS_for, wS_whl, wS_pass, wS_dead, wT_nil, wT_cons, onB_bl, onV_some, onO_some, onI_int, onZ_bl, List.getElem?_cons_zero, List.getElem?_cons_succ, List.set_cons_zero, List.set_cons_succ, decide_eq_true_eq, wF_len, wF_lent, wF_lens, wF_lst, wF_tup, wF_sum, wF_min, wF_max, wF_inti, wF_intb, wF_str, wM_app, wM_popA, wM_join, wM_split, rcv_app, rcv_popA, rcv_join, rcv_split, wR_1, wR_2, wZ_3, wZ_2, walk_tup, walk_fl, wU_fl, wT_strs, at0, at1, at2, at3, at4, atL, items_tup, items_fl, true_and, Option.isSome_some, List.length_set, ixn_4_0, ixn_4_1, ixn_4_2, ixn_4_3, List.length_cons, List.length_nil, Nat.zero_add, Nat.reduceAdd, Nat.reduceLT, Nat.reduceLeDiff, ne_eq, Nat.reduceEqDiff, Int.reducePow, Int.reduceToNat, Int.reduceEq, Int.reduceLT, Int.reduceLE, Int.reduceNeg, not_false_eq_true, reduceIte, Bool.false_eq_true, List.map_cons, List.map_nil, List.eraseIdx_cons_zero, not_true_eq_false, Bool.not_true, Bool.not_false, List.length_append, List.append_assoc, List.cons_append, List.nil_append, List.append_nil, items_W, items_W0, items_c0, items_c1, items_c2, items_c3, items_c4, lst_W, lst_W0, lst_c0, lst_c1, lst_c2, lst_c3, set_W, wB_addl, Nat.add_assoc, items_cs, items_last, wI_strW, wC_in, wC_notin, opIn_sign, walk_str, wF_intS, wT_tt, wT_tl, wT_it, wT_il, wT_is, wT_ii, wT_ib, wF_all, isNon_non, isNon_int, isNon_ref, isNon_tup, isNon_str, items_V, lst_V, set_V, bls_repW, all_repW, lst_last, set_last, walk_c0, strs_mapD, wp_quiet, bind3, bind2, bindU2, bindU3, atLm, map_snoc_int, ints_mapD, items_ss, set_W0, Option.map_some, Nat.add_zero, h3.1]
      refine take_q L h3 (by omega) (by omega) fun u T4 u0 u1 h4 => ?_
      simp only [wE_var, wE_cst, wE_glb, wE_bin, wE_neg, wE_cmp, wE_chn, wE_band, wE_bor, wE_not, wE_ite, wE_tup, wE_lst, wE_ix, wE_slc, wE_call, wE_blt, wE_isi, wE_mth, wE_one, wE_comp, wE_fst, wL_nil, wL_cons, wO_none, wO_some, wC_none, wC_some, wF_nil, wF_cons, wI_seq, wI_rng, wI_zip, wI_enm, wB_add, wB_adds, wB_addt, wB_sub, wB_mul, wB_fdv, wB_mod, wB_pow, wC_lt, wC_le, wC_gt, wC_ge, wC_eq, wC_ne, wC_is, wC_isnot, eqD_int, eqD_str, eqD_bl, wI_ref, wI_tup, wS_exp, wS_nam, wS_sub, wS_tup, wS_par, wS_ret0, wS_ret, wS_ite, wS_for, wS_whl, wS_pass, wS_dead, wT_nil, wT_cons, onB_bl, onV_some, onO_some, onI_int, onZ_bl, List.getElem?_cons_zero, List.getElem?_cons_succ, List.set_cons_zero, List.set_cons_succ, decide_eq_true_eq, wF_len, wF_lent, wF_lens, wF_lst, wF_tup, wF_sum, wF_min, wF_max, wF_inti, wF_intb, wF_str, wM_app, wM_popA, wM_join, wM_split, rcv_app, rcv_popA, rcv_join, rcv_split, wR_1, wR_2, wZ_3, wZ_2, walk_tup, walk_fl, wU_fl, wT_strs, at0, at1, at2, at3, at4, atL, items_tup, items_fl, true_and, Option.isSome_some, List.length_set, ixn_4_0, ixn_4_1, ixn_4_2, ixn_4_3, List.length_cons, List.length_nil, Nat.zero_add, Nat.reduceAdd, Nat.reduceLT, Nat.reduceLeDiff, ne_eq, Nat.reduceEqDiff, Int.reducePow, Int.reduceToNat, Int.reduceEq, Int.reduceLT, Int.reduceLE, Int.reduceNeg, not_false_eq_true, reduceIte, Bool.false_eq_true, List.map_cons, List.map_nil, List.eraseIdx_cons_zero, not_true_eq_false, Bool.not_true, Bool.not_false, List.length_append, List.append_assoc, List.cons_append, List.nil_append, List.append_nil, items_W, items_W0, items_c0, items_c1, items_c2, items_c3, items_c4, lst_W, lst_W0, lst_c0, lst_c1, lst_c2, lst_c3, set_W, wB_addl, Nat.add_assoc, items_cs, items_last, wI_strW, wC_in, wC_notin, opIn_sign, walk_str, wF_intS, wT_tt, wT_tl, wT_it, wT_il, wT_is, wT_ii, wT_ib, wF_all, isNon_non, isNon_int, isNon_ref, isNon_tup, isNon_str, items_V, lst_V, set_V, bls_repW, all_repW, lst_last, set_last, walk_c0, strs_mapD, wp_quiet, bind3, bind2, bindU2, bindU3, atLm, map_snoc_int, ints_mapD, items_ss, set_W0, Option.map_some, Nat.add_zero, h4.1]
      exact ⟨by rw [List.length_map]; omega, by rw [List.length_map]; omega, fin v w u T4 _ _ _ h4 (by omega) (by omega) (by omega) (by omega) (by omega) (by omega) (by rw [show v = 0 by omega]; exact .nd _ _ (by omega) (by omega))⟩
    | ch =>
      simp only [bind1, wE_var, wE_cst, wE_glb, wE_bin, wE_neg, wE_cmp, wE_chn, wE_band, wE_bor, wE_not, wE_ite, wE_tup, wE_lst, wE_ix, wE_slc, wE_call, wE_blt, wE_isi, wE_mth, wE_one, wE_comp, wE_fst, wL_nil, wL_cons, wO_none, wO_some, wC_none, wC_some, wF_nil, wF_cons, wI_seq, wI_rng, wI_zip, wI_enm, wB_add, wB_adds, wB_addt, wB_sub, wB_mul, wB_fdv, wB_mod, wB_pow, wC_lt, wC_le, wC_gt, wC_ge, wC_eq, wC_ne, wC_is, wC_isnot, eqD_int, eqD_str, eqD_bl, wI_ref, wI_tup, wS_exp, wS_nam, wS_sub, wS_tup, wS_par, wS_ret0, wS_ret, wS_ite, wS_for, wS_whl, wS_pass, wS_dead, wT_nil, wT_cons, onB_bl, onV_some, onO_some, onI_int, onZ_bl, List.getElem?_cons_zero, List.getElem?_cons_succ, List.set_cons_zero, List.set_cons_succ, decide_eq_true_eq, wF_len, wF_lent, wF_lens, wF_lst, wF_tup, wF_sum, wF_min, wF_max, wF_inti, wF_intb, wF_str, wM_app, wM_popA, wM_join, wM_split, rcv_app, rcv_popA, rcv_join, rcv_split, wR_1, wR_2, wZ_3, wZ_2, walk_tup, walk_fl, wU_fl, wT_strs, at0, at1, at2, at3, at4, atL, items_tup, items_fl, true_and, Option.isSome_some, List.length_set, ixn_4_0, ixn_4_1, ixn_4_2, ixn_4_3, List.length_cons, List.length_nil, Nat.zero_add, Nat.reduceAdd, Nat.reduceLT, Nat.reduceLeDiff, ne_eq, Nat.reduceEqDiff, Int.reducePow, Int.reduceToNat, Int.reduceEq, Int.reduceLT, Int.reduceLE, Int.reduceNeg, not_false_eq_true, reduceIte, Bool.false_eq_true, List.map_cons, List.map_nil, List.eraseIdx_cons_zero, not_true_eq_false, Bool.not_true, Bool.not_false, List.length_append, List.append_assoc, List.cons_append, List.nil_append, List.append_nil, items_W, items_W0, items_c0, items_c1, items_c2, items_c3, items_c4, lst_W, lst_W0, lst_c0, lst_c1, lst_c2, lst_c3, set_W, wB_addl, Nat.add_assoc, items_cs, items_last, wI_strW, wC_in, wC_notin, opIn_sign, walk_str, wF_intS, wT_tt, wT_tl, wT_it, wT_il, wT_is, wT_ii, wT_ib, wF_all, isNon_non, isNon_int, isNon_ref, isNon_tup, isNon_str, items_V, lst_V, set_V, bls_repW, all_repW, lst_last, set_last, walk_c0, strs_mapD, wp_quiet, bind3, bind2, bindU2, bindU3, atLm, map_snoc_int, ints_mapD, items_ss, set_W0, Option.map_some, Nat.add_zero, hl, ne1, ne2, ne3, ne4]
      refine take_q L hT (by omega) (by omega) fun v T2 v0 v1 h2 => ?_
      simp only [wE_var, wE_cst, wE_glb, wE_bin, wE_neg, wE_cmp, wE_chn, wE_band, wE_bor, wE_not, wE_ite, wE_tup, wE_lst, wE_ix, wE_slc, wE_call, wE_blt, wE_isi, wE_mth, wE_one, wE_comp, wE_fst, wL_nil, wL_cons, wO_none, wO_some, wC_none, wC_some, wF_nil, wF_cons, wI_seq, wI_rng, wI_zip, wI_enm, wB_add, wB_adds, wB_addt, wB_sub, wB_mul, wB_fdv, wB_mod, wB_pow, wC_lt, wC_le, wC_gt, wC_ge, wC_eq, wC_ne, wC_is, wC_isnot, eqD_int, eqD_str, eqD_bl, wI_ref, wI_tup, wS_exp, wS_nam, wS_sub, wS_tup, wS_par, wS_ret0, wS_ret, wS_ite, wS_for, wS_whl, wS_pass, wS_dead, wT_nil, wT_cons, onB_bl, onV_some, onO_some, onI_int, onZ_bl, List.getElem?_cons_zero, List.getElem?_cons_succ, List.set_cons_zero, List.set_cons_succ, decide_eq_true_eq, wF_len, wF_lent, wF_lens, wF_lst, wF_tup, wF_sum, wF_min, wF_max, wF_inti, wF_intb, wF_str, wM_app, wM_popA, wM_join, wM_split, rcv_app, rcv_popA, rcv_join, rcv_split, wR_1, wR_2, wZ_3, wZ_2, walk_tup, walk_fl, wU_fl, wT_strs, at0, at1, at2, at3, at4, atL, items_tup, items_fl, true_and, Option.isSome_some, List.length_set, ixn_4_0, ixn_4_1, ixn_4_2, ixn_4_3, List.length_cons, List.length_nil, Nat.zero_add, Nat.reduceAdd, Nat.reduceLT, Nat.reduceLeDiff, ne_eq, Nat.reduceEqDiff, Int.reducePow, Int.reduceToNat, Int.reduceEq, Int.reduceLT, Int.reduceLE, Int.reduceNeg, not_false_eq_true, reduceIte, Bool.false_eq_true, List.map_cons, List.map_nil, List.eraseIdx_cons_zero, not_true_eq_false, Bool.not_true, Bool.not_false, List.length_append, List.append_assoc, List.cons_append, List.nil_append, List.append_nil, items_W, items_W0, items_c0, items_c1, items_c2, items_c3, items_c4, lst_W, lst_W0, lst_c0, lst_c1, lst_c2, lst_c3, set_W, wB_addl, Nat.add_assoc, items_cs, items_last, wI_strW, wC_in, wC_notin, opIn_sign, walk_str, wF_intS, wT_tt, wT_tl, wT_it, wT_il, wT_is, wT_ii, wT_ib, wF_all, isNon_non, isNon_int, isNon_ref, isNon_tup, isNon_str, items_V, lst_V, set_V, bls_repW, all_repW, lst_last, set_last, walk_c0, strs_mapD, wp_quiet, bind3, bind2, bindU2, bindU3, atLm, map_snoc_int, ints_mapD, items_ss, set_W0, Option.map_some, Nat.add_zero, h2.1]
      refine ⟨by rw [List.length_map]; omega, take_q L h2 (by omega) (by omega) fun w T3 w0 w1 h3 => ?_⟩
      simp only [wE_var, wE_cst, wE_glb, wE_bin, wE_neg, wE_cmp, wE_chn, wE_band, wE_bor, wE_not, wE_ite, wE_tup, wE_lst, wE_ix, wE_slc, wE_call, wE_blt, wE_isi, wE_mth, wE_one, wE_comp, wE_fst, wL_nil, wL_cons, wO_none, wO_some, wC_none, wC_some, wF_nil, wF_cons, wI_seq, wI_rng, wI_zip, wI_enm, wB_add, wB_adds, wB_addt, wB_sub, wB_mul, wB_fdv, wB_mod, wB_pow, wC_lt, wC_le, wC_gt, wC_ge, wC_eq, wC_ne, wC_is, wC_isnot, eqD_int, eqD_str, eqD_bl, wI_ref, wI_tup, wS_exp, wS_nam, wS_sub, wS_tup, wS_par, wS_ret0, wS_ret, wS_ite, wS_for, wS_whl, wS_pass, wS_dead, wT_nil, wT_cons, onB_bl, onV_some, onO_some, onI_int, onZ_bl, List.getElem?_cons_zero, List.getElem?_cons_succ, List.set_cons_zero, List.set_cons_succ, decide_eq_true_eq, wF_len, wF_lent, wF_lens, wF_lst, wF_tup, wF_sum, wF_min, wF_max, wF_inti, wF_intb, wF_str, wM_app, wM_popA, wM_join, wM_split, rcv_app, rcv_popA, rcv_join, rcv_split, wR_1, wR_2, wZ_3, wZ_2, walk_tup, walk_fl, wU_fl, wT_strs, at0, at1, at2, at3, at4, atL, items_tup, items_fl, true_and, Option.isSome_some, List.length_set, ixn_4_0, ixn_4_1, ixn_4_2, ixn_4_3, List.length_cons, List.length_nil, Nat.zero_add, Nat.reduceAdd, Nat.reduceLT, Nat.reduceLeDiff, ne_eq, Nat.reduceEqDiff, Int.reducePow, Int.reduceToNat, Int.reduceEq, Int.reduceLT, Int.reduceLE, Int.reduceNeg, not_false_eq_true, reduceIte, Bool.false_eq_true, List.map_cons, List.map_nil, List.eraseIdx_cons_zero, not_true_eq_false, Bool.not_true, Bool.not_false, List.length_append, List.append_assoc, List.cons_append, List.nil_append, List.append_nil, items_W, items_W0, items_c0, items_c1, items_c2, items_c3, items_c4, lst_W, lst_W0, lst_c0, lst_c1, lst_c2, lst_c3, set_W, wB_addl, Nat.add_assoc, items_cs, items_last, wI_strW, wC_in, wC_notin, opIn_sign, walk_str, wF_intS, wT_tt, wT_tl, wT_it, wT_il, wT_is, wT_ii, wT_ib, wF_all, isNon_non, isNon_int, isNon_ref, isNon_tup, isNon_str, items_V, lst_V, set_V, bls_repW, all_repW, lst_last, set_last, walk_c0, strs_mapD, wp_quiet, bind3, bind2, bindU2, bindU3, atLm, map_snoc_int, ints_mapD, items_ss, set_W0, Option.map_some, Nat.add_zero, h3.1]
      refine take_q L h3 (by omega) (by omega) fun u T4 u0 u1 h4 => ?_
      simp only [wE_var, wE_cst, wE_glb, wE_bin, wE_neg, wE_cmp, wE_chn, wE_band, wE_bor, wE_not, wE_ite, wE_tup, wE_lst, wE_ix, wE_slc, wE_call, wE_blt, wE_isi, wE_mth, wE_one, wE_comp, wE_fst, wL_nil, wL_cons, wO_none, wO_some, wC_none, wC_some, wF_nil, wF_cons, wI_seq, wI_rng, wI_zip, wI_enm, wB_add, wB_adds, wB_addt, wB_sub, wB_mul, wB_fdv, wB_mod, wB_pow, wC_lt, wC_le, wC_gt, wC_ge, wC_eq, wC_ne, wC_is, wC_isnot, eqD_int, eqD_str, eqD_bl, wI_ref, wI_tup, wS_exp, wS_nam, wS_sub, wS_tup, wS_par, wS_ret0, wS_ret, wS_ite, wS_for, wS_whl, wS_pass, wS_dead, wT_nil, wT_cons, onB_bl, onV_some, onO_some, onI_int, onZ_bl, List.getElem?_cons_zero, List.getElem?_cons_succ, List.set_cons_zero, List.set_cons_succ, decide_eq_true_eq, wF_len, wF_lent, wF_lens, wF_lst, wF_tup, wF_sum, wF_min, wF_max, wF_inti, wF_intb, wF_str, wM_app, wM_popA, wM_join, wM_split, rcv_app, rcv_popA, rcv_join, rcv_split, wR_1, wR_2, wZ_3, wZ_2, walk_tup, walk_fl, wU_fl, wT_strs, at0, at1, at2, at3, at4, atL, items_tup, items_fl, true_and, Option.isSome_some, List.length_set, ixn_4_0, ixn_4_1, ixn_4_2, ixn_4_3, List.length_cons, List.length_nil, Nat.zero_add, Nat.reduceAdd, Nat.reduceLT, Nat.reduceLeDiff, ne_eq, Nat.reduceEqDiff, Int.reducePow, Int.reduceToNat, Int.reduceEq, Int.reduceLT, Int.reduceLE, Int.reduceNeg, not_false_eq_true, reduceIte, Bool.false_eq_true, List.map_cons, List.map_nil, List.eraseIdx_cons_zero, not_true_eq_false, Bool.not_true, Bool.not_false, List.length_append, List.append_assoc, List.cons_append, List.nil_append, List.append_nil, items_W, items_W0, items_c0, items_c1, items_c2, items_c3, items_c4, lst_W, lst_W0, lst_c0, lst_c1, lst_c2, lst_c3, set_W, wB_addl, Nat.add_assoc, items_cs, items_last, wI_strW, wC_in, wC_notin, opIn_sign, walk_str, wF_intS, wT_tt, wT_tl, wT_it, wT_il, wT_is, wT_ii, wT_ib, wF_all, isNon_non, isNon_int, isNon_ref, isNon_tup, isNon_str, items_V, lst_V, set_V, bls_repW, all_repW, lst_last, set_last, walk_c0, strs_mapD, wp_quiet, bind3, bind2, bindU2, bindU3, atLm, map_snoc_int, ints_mapD, items_ss, set_W0, Option.map_some, Nat.add_zero, h4.1]
      exact ⟨by rw [List.length_map]; omega, by rw [List.length_map]; omega, fin v w u T4 _ _ _ h4 (by omega) (by omega) (by omega) (by omega) (by omega) (by omega) (.ch _ _ _ (by omega) (by omega) (by omega) (by omega) (by omega))⟩
    | po b d r p b0 b1 d0 d1 m0 m1 hp =>
      simp only [bind1, wE_var, wE_cst, wE_glb, wE_bin, wE_neg, wE_cmp, wE_chn, wE_band, wE_bor, wE_not, wE_ite, wE_tup, wE_lst, wE_ix, wE_slc, wE_call, wE_blt, wE_isi, wE_mth, wE_one, wE_comp, wE_fst, wL_nil, wL_cons, wO_none, wO_some, wC_none, wC_some, wF_nil, wF_cons, wI_seq, wI_rng, wI_zip, wI_enm, wB_add, wB_adds, wB_addt, wB_sub, wB_mul, wB_fdv, wB_mod, wB_pow, wC_lt, wC_le, wC_gt, wC_ge, wC_eq, wC_ne, wC_is, wC_isnot, eqD_int, eqD_str, eqD_bl, wI_ref, wI_tup, wS_exp, wS_nam, wS_sub, wS_tup, wS_par, wS_ret0, wS_ret, wS_ite, wS_for, wS_whl, wS_pass, wS_dead, wT_nil, wT_cons, onB_bl, onV_some, onO_some, onI_int, onZ_bl, List.getElem?_cons_zero, List.getElem?_cons_succ, List.set_cons_zero, List.set_cons_succ, decide_eq_true_eq, wF_len, wF_lent, wF_lens, wF_lst, wF_tup, wF_sum, wF_min, wF_max, wF_inti, wF_intb, wF_str, wM_app, wM_popA, wM_join, wM_split, rcv_app, rcv_popA, rcv_join, rcv_split, wR_1, wR_2, wZ_3, wZ_2, walk_tup, walk_fl, wU_fl, wT_strs, at0, at1, at2, at3, at4, atL, items_tup, items_fl, true_and, Option.isSome_some, List.length_set, ixn_4_0, ixn_4_1, ixn_4_2, ixn_4_3, List.length_cons, List.length_nil, Nat.zero_add, Nat.reduceAdd, Nat.reduceLT, Nat.reduceLeDiff, ne_eq, Nat.reduceEqDiff, Int.reducePow, Int.reduceToNat, Int.reduceEq, Int.reduceLT, Int.reduceLE, Int.reduceNeg, not_false_eq_true, reduceIte, Bool.false_eq_true, List.map_cons, List.map_nil, List.eraseIdx_cons_zero, not_true_eq_false, Bool.not_true, Bool.not_false, List.length_append, List.append_assoc, List.cons_append, List.nil_append, List.append_nil, items_W, items_W0, items_c0, items_c1, items_c2, items_c3, items_c4, lst_W, lst_W0, lst_c0, lst_c1, lst_c2, lst_c3, set_W, wB_addl, Nat.add_assoc, items_cs, items_last, wI_strW, wC_in, wC_notin, opIn_sign, walk_str, wF_intS, wT_tt, wT_tl, wT_it, wT_il, wT_is, wT_ii, wT_ib, wF_all, isNon_non, isNon_int, isNon_ref, isNon_tup, isNon_str, items_V, lst_V, set_V, bls_repW, all_repW, lst_last, set_last, walk_c0, strs_mapD, wp_quiet, bind3, bind2, bindU2, bindU3, atLm, map_snoc_int, ints_mapD, items_ss, set_W0, Option.map_some, Nat.add_zero, hl, ne1, ne2, ne3, ne4]
      refine take_q L hT (by omega) (by omega) fun v T2 v0 v1 h2 => ?_
      simp only [wE_var, wE_cst, wE_glb, wE_bin, wE_neg, wE_cmp, wE_chn, wE_band, wE_bor, wE_not, wE_ite, wE_tup, wE_lst, wE_ix, wE_slc, wE_call, wE_blt, wE_isi, wE_mth, wE_one, wE_comp, wE_fst, wL_nil, wL_cons, wO_none, wO_some, wC_none, wC_some, wF_nil, wF_cons, wI_seq, wI_rng, wI_zip, wI_enm, wB_add, wB_adds, wB_addt, wB_sub, wB_mul, wB_fdv, wB_mod, wB_pow, wC_lt, wC_le, wC_gt, wC_ge, wC_eq, wC_ne, wC_is, wC_isnot, eqD_int, eqD_str, eqD_bl, wI_ref, wI_tup, wS_exp, wS_nam, wS_sub, wS_tup, wS_par, wS_ret0, wS_ret, wS_ite, wS_for, wS_whl, wS_pass, wS_dead, wT_nil, wT_cons, onB_bl, onV_some, onO_some, onI_int, onZ_bl, List.getElem?_cons_zero, List.getElem?_cons_succ, List.set_cons_zero, List.set_cons_succ, decide_eq_true_eq, wF_len, wF_lent, wF_lens, wF_lst, wF_tup, wF_sum, wF_min, wF_max, wF_inti, wF_intb, wF_str, wM_app, wM_popA, wM_join, wM_split, rcv_app, rcv_popA, rcv_join, rcv_split, wR_1, wR_2, wZ_3, wZ_2, walk_tup, walk_fl, wU_fl, wT_strs, at0, at1, at2, at3, at4, atL, items_tup, items_fl, true_and, Option.isSome_some, List.length_set, ixn_4_0, ixn_4_1, ixn_4_2, ixn_4_3, List.length_cons, List.length_nil, Nat.zero_add, Nat.reduceAdd, Nat.reduceLT, Nat.reduceLeDiff, ne_eq, Nat.reduceEqDiff, Int.reducePow, Int.reduceToNat, Int.reduceEq, Int.reduceLT, Int.reduceLE, Int.reduceNeg, not_false_eq_true, reduceIte, Bool.false_eq_true, List.map_cons, List.map_nil, List.eraseIdx_cons_zero, not_true_eq_false, Bool.not_true, Bool.not_false, List.length_append, List.append_assoc, List.cons_append, List.nil_append, List.append_nil, items_W, items_W0, items_c0, items_c1, items_c2, items_c3, items_c4, lst_W, lst_W0, lst_c0, lst_c1, lst_c2, lst_c3, set_W, wB_addl, Nat.add_assoc, items_cs, items_last, wI_strW, wC_in, wC_notin, opIn_sign, walk_str, wF_intS, wT_tt, wT_tl, wT_it, wT_il, wT_is, wT_ii, wT_ib, wF_all, isNon_non, isNon_int, isNon_ref, isNon_tup, isNon_str, items_V, lst_V, set_V, bls_repW, all_repW, lst_last, set_last, walk_c0, strs_mapD, wp_quiet, bind3, bind2, bindU2, bindU3, atLm, map_snoc_int, ints_mapD, items_ss, set_W0, Option.map_some, Nat.add_zero, h2.1]
      refine ⟨by rw [List.length_map]; omega, take_q L h2 (by omega) (by omega) fun w T3 w0 w1 h3 => ?_⟩
      simp only [wE_var, wE_cst, wE_glb, wE_bin, wE_neg, wE_cmp, wE_chn, wE_band, wE_bor, wE_not, wE_ite, wE_tup, wE_lst, wE_ix, wE_slc, wE_call, wE_blt, wE_isi, wE_mth, wE_one, wE_comp, wE_fst, wL_nil, wL_cons, wO_none, wO_some, wC_none, wC_some, wF_nil, wF_cons, wI_seq, wI_rng, wI_zip, wI_enm, wB_add, wB_adds, wB_addt, wB_sub, wB_mul, wB_fdv, wB_mod, wB_pow, wC_lt, wC_le, wC_gt, wC_ge, wC_eq, wC_ne, wC_is, wC_isnot, eqD_int, eqD_str, eqD_bl, wI_ref, wI_tup, wS_exp, wS_nam, wS_sub, wS_tup, wS_par, wS_ret0, wS_ret, wS_ite, wS_for, wS_whl, wS_pass, wS_dead, wT_nil, wT_cons, onB_bl, onV_some, onO_some, onI_int, onZ_bl, List.getElem?_cons_zero, List.getElem?_cons_succ, List.set_cons_zero, List.set_cons_succ, decide_eq_true_eq, wF_len, wF_lent, wF_lens, wF_lst, wF_tup, wF_sum, wF_min, wF_max, wF_inti, wF_intb, wF_str, wM_app, wM_popA, wM_join, wM_split, rcv_app, rcv_popA, rcv_join, rcv_split, wR_1, wR_2, wZ_3, wZ_2, walk_tup, walk_fl, wU_fl, wT_strs, at0, at1, at2, at3, at4, atL, items_tup, items_fl, true_and, Option.isSome_some, List.length_set, ixn_4_0, ixn_4_1, ixn_4_2, ixn_4_3, List.length_cons, List.length_nil, Nat.zero_add, Nat.reduceAdd, Nat.reduceLT, Nat.reduceLeDiff, ne_eq, Nat.reduceEqDiff, Int.reducePow, Int.reduceToNat, Int.reduceEq, Int.reduceLT, Int.reduceLE, Int.reduceNeg, not_false_eq_true, reduceIte, Bool.false_eq_true, List.map_cons, List.map_nil, List.eraseIdx_cons_zero, not_true_eq_false, Bool.not_true, Bool.not_false, List.length_append, List.append_assoc, List.cons_append, List.nil_append, List.append_nil, items_W, items_W0, items_c0, items_c1, items_c2, items_c3, items_c4, lst_W, lst_W0, lst_c0, lst_c1, lst_c2, lst_c3, set_W, wB_addl, Nat.add_assoc, items_cs, items_last, wI_strW, wC_in, wC_notin, opIn_sign, walk_str, wF_intS, wT_tt, wT_tl, wT_it, wT_il, wT_is, wT_ii, wT_ib, wF_all, isNon_non, isNon_int, isNon_ref, isNon_tup, isNon_str, items_V, lst_V, set_V, bls_repW, all_repW, lst_last, set_last, walk_c0, strs_mapD, wp_quiet, bind3, bind2, bindU2, bindU3, atLm, map_snoc_int, ints_mapD, items_ss, set_W0, Option.map_some, Nat.add_zero, h3.1]
      refine take_q L h3 (by omega) (by omega) fun u T4 u0 u1 h4 => ?_
      simp only [wE_var, wE_cst, wE_glb, wE_bin, wE_neg, wE_cmp, wE_chn, wE_band, wE_bor, wE_not, wE_ite, wE_tup, wE_lst, wE_ix, wE_slc, wE_call, wE_blt, wE_isi, wE_mth, wE_one, wE_comp, wE_fst, wL_nil, wL_cons, wO_none, wO_some, wC_none, wC_some, wF_nil, wF_cons, wI_seq, wI_rng, wI_zip, wI_enm, wB_add, wB_adds, wB_addt, wB_sub, wB_mul, wB_fdv, wB_mod, wB_pow, wC_lt, wC_le, wC_gt, wC_ge, wC_eq, wC_ne, wC_is, wC_isnot, eqD_int, eqD_str, eqD_bl, wI_ref, wI_tup, wS_exp, wS_nam, wS_sub, wS_tup, wS_par, wS_ret0, wS_ret, wS_ite, wS_for, wS_whl, wS_pass, wS_dead, wT_nil, wT_cons, onB_bl, onV_some, onO_some, onI_int, onZ_bl, List.getElem?_cons_zero, List.getElem?_cons_succ, List.set_cons_zero, List.set_cons_succ, decide_eq_true_eq, wF_len, wF_lent, wF_lens, wF_lst, wF_tup, wF_sum, wF_min, wF_max, wF_inti, wF_intb, wF_str, wM_app, wM_popA, wM_join, wM_split, rcv_app, rcv_popA, rcv_join, rcv_split, wR_1, wR_2, wZ_3, wZ_2, walk_tup, walk_fl, wU_fl, wT_strs, at0, at1, at2, at3, at4, atL, items_tup, items_fl, true_and, Option.isSome_some, List.length_set, ixn_4_0, ixn_4_1, ixn_4_2, ixn_4_3, List.length_cons, List.length_nil, Nat.zero_add, Nat.reduceAdd, Nat.reduceLT, Nat.reduceLeDiff, ne_eq, Nat.reduceEqDiff, Int.reducePow, Int.reduceToNat, Int.reduceEq, Int.reduceLT, Int.reduceLE, Int.reduceNeg, not_false_eq_true, reduceIte, Bool.false_eq_true, List.map_cons, List.map_nil, List.eraseIdx_cons_zero, not_true_eq_false, Bool.not_true, Bool.not_false, List.length_append, List.append_assoc, List.cons_append, List.nil_append, List.append_nil, items_W, items_W0, items_c0, items_c1, items_c2, items_c3, items_c4, lst_W, lst_W0, lst_c0, lst_c1, lst_c2, lst_c3, set_W, wB_addl, Nat.add_assoc, items_cs, items_last, wI_strW, wC_in, wC_notin, opIn_sign, walk_str, wF_intS, wT_tt, wT_tl, wT_it, wT_il, wT_is, wT_ii, wT_ib, wF_all, isNon_non, isNon_int, isNon_ref, isNon_tup, isNon_str, items_V, lst_V, set_V, bls_repW, all_repW, lst_last, set_last, walk_c0, strs_mapD, wp_quiet, bind3, bind2, bindU2, bindU3, atLm, map_snoc_int, ints_mapD, items_ss, set_W0, Option.map_some, Nat.add_zero, h4.1]
      exact ⟨by rw [List.length_map]; omega, by rw [List.length_map]; omega, fin v w u T4 _ _ _ h4 (by omega) (by omega) (by omega) (by omega) (by omega) (by omega) (.po _ _ _ _ _ _ _ (by omega) (by omega) (by omega) (by omega) (by omega))⟩
  · rintro σ S ⟨lv, r0, r1, T', y4, y5, y6, y7, y8, y9, y10, rfl, rfl, hT, hlv, hr0, hr1, e1, e2, e3, e4, hF⟩
    have hl := hT.1
    simp only [wE_var, wE_cst, wE_glb, wE_bin, wE_neg, wE_cmp, wE_chn, wE_band, wE_bor, wE_not, wE_ite, wE_tup, wE_lst, wE_ix, wE_slc, wE_call, wE_blt, wE_isi, wE_mth, wE_one, wE_comp, wE_fst, wL_nil, wL_cons, wO_none, wO_some, wC_none, wC_some, wF_nil, wF_cons, wI_seq, wI_rng, wI_zip, wI_enm, wB_add, wB_adds, wB_addt, wB_sub, wB_mul, wB_fdv, wB_mod, wB_pow, wC_lt, wC_le, wC_gt, wC_ge, wC_eq, wC_ne, wC_is, wC_isnot, eqD_int, eqD_str, eqD_bl, wI_ref, wI_tup, wS_exp, wS_nam, wS_sub, wS_tup, wS_par, wS_ret0, wS_ret, wS_ite, wS_for, wS_whl, wS_pass, wS_dead, wT_nil, wT_cons, onB_bl, onV_some, onO_some, onI_int, onZ_bl, List.getElem?_cons_zero, List.getElem?_cons_succ, List.set_cons_zero, List.set_cons_succ, decide_eq_true_eq, wF_len, wF_lent, wF_lens, wF_lst, wF_tup, wF_sum, wF_min, wF_max, wF_inti, wF_intb, wF_str, wM_app, wM_popA, wM_join, wM_split, rcv_app, rcv_popA, rcv_join, rcv_split, wR_1, wR_2, wZ_3, wZ_2, walk_tup, walk_fl, wU_fl, wT_strs, at0, at1, at2, at3, at4, atL, items_tup, items_fl, true_and, Option.isSome_some, List.length_set, ixn_4_0, ixn_4_1, ixn_4_2, ixn_4_3, List.length_cons, List.length_nil, Nat.zero_add, Nat.reduceAdd, Nat.reduceLT, Nat.reduceLeDiff, ne_eq, Nat.reduceEqDiff, Int.reducePow, Int.reduceToNat, Int.reduceEq, Int.reduceLT, Int.reduceLE, Int.reduceNeg, not_false_eq_true, reduceIte, Bool.false_eq_true, List.map_cons, List.map_nil, List.eraseIdx_cons_zero, not_true_eq_false, Bool.not_true, Bool.not_false, List.length_append, List.append_assoc, List.cons_append, List.nil_append, List.append_nil, items_W, items_W0, items_c0, items_c1, items_c2, items_c3, items_c4, lst_W, lst_W0, lst_c0, lst_c1, lst_c2, lst_c3, set_W, wB_addl, Nat.add_assoc, items_cs, items_last, wI_strW, wC_in, wC_notin, opIn_sign, walk_str, wF_intS, wT_tt, wT_tl, wT_it, wT_il, wT_is, wT_ii, wT_ib, wF_all, isNon_non, isNon_int, isNon_ref, isNon_tup, isNon_str, items_V, lst_V, set_V, bls_repW, all_repW, lst_last, set_last, walk_c0, strs_mapD, wp_quiet, bind3, bind2, bindU2, bindU3, atLm, map_snoc_int, ints_mapD, items_ss, set_W0, Option.map_some, Nat.add_zero, hl]
    refine ⟨by decide, ?_⟩
    have s0 := hr0.sum_le (by decide)
    have s1 := hr1.sum_le (by decide)
    refine forW0 (fun i σ S => ∃ (r0 r1 : List Int) (rest : Int) (T' G : Sto) (y4 y6 y7 y8 y9 y10 : Option D), σ = [some (.ref t), some (.tup [.tup ps, gs]), some (.ref (l + U.length)), some (.ref (l + (U.length + 3))), y4, some (.int rest), y6, y7, y8, y9, y10] ∧
      S = T' ++ (U ++ (.lst (lv.map D.int) :: .lst (r0.map D.int) :: .lst (r1.map D.int) :: .lst [.ref (l + (U.length + 1)), .ref (l + (U.length + 2))] :: G)) ∧ Tp t l T' ∧ In 0 60 r0 ∧ In 0 60 r1 ∧ r0.length = ps.length ∧ r1.length = ps.length ∧ 0 ≤ rest ∧ rest ≤ 60 ∧ Fits ps lv r0 r1 ∧ r0.sum + r1.sum + rest ≤ 60)
      ⟨r0, r1, 60 - r0.sum - r1.sum, T', [], _, _, _, _, _, _, rfl, rfl, hT, (fun x hx => ⟨(hr0 x hx).1, by have := (hr0 x hx).2; omega⟩), (fun x hx => ⟨(hr1 x hx).1, by have := (hr1 x hx).2; omega⟩), e2, e3, by omega, by omega, hF, by omega⟩ ?_ ?_
    · rintro i d σ S ⟨r0, r1, rest, T', G, y4, y6, y7, y8, y9, y10, rfl, rfl, hT, hr0, hr1, e2, e3, q0, q1, hF, hS⟩ hd
      obtain ⟨hi, rfl⟩ := rngD_get hd
      have hl := hT.1
      have ka : ((0 : Int) + i).fmod 2 = 0 ∨ ((0 : Int) + i).fmod 2 = 1 := by
        have := fmod_in (i := (0 : Int) + i) (m := 2) (by decide)
        omega
      have kb : ((0 : Int) + i).fdiv 2 = 0 ∨ ((0 : Int) + i).fdiv 2 = 1 := by
        rcases (by omega : i = 0 ∨ i = 1 ∨ i = 2 ∨ i = 3) with rfl | rfl | rfl | rfl <;> decide
      obtain ⟨x, hx, x0, x1, xE⟩ : ∃ x, ((0 : Int) + i).fmod 2 * ((lv.map D.int).length - 1) = x ∧ 0 ≤ x ∧ x < ps.length ∧ ps[x.toNat]? = some E0 := by
        rw [List.length_map]
        refine ⟨_, rfl, ?_⟩
        rcases ka with ka | ka
        · rw [ka, Int.zero_mul]
          exact ⟨by omega, by omega, hz0⟩
        · rw [ka, Int.one_mul, e1]
          exact ⟨by omega, by omega, by rw [show ((ps.length : Int) - 1).toNat = ps.length - 1 by omega]; exact hz1⟩
      simp only [bind1, wE_var, wE_cst, wE_glb, wE_bin, wE_neg, wE_cmp, wE_chn, wE_band, wE_bor, wE_not, wE_ite, wE_tup, wE_lst, wE_ix, wE_slc, wE_call, wE_blt, wE_isi, wE_mth, wE_one, wE_comp, wE_fst, wL_nil, wL_cons, wO_none, wO_some, wC_none, wC_some, wF_nil, wF_cons, wI_seq, wI_rng, wI_zip, wI_enm, wB_add, wB_adds, wB_addt, wB_sub, wB_mul, wB_fdv, wB_mod, wB_pow, wC_lt, wC_le, wC_gt, wC_ge, wC_eq, wC_ne, wC_is, wC_isnot, eqD_int, eqD_str, eqD_bl, wI_ref, wI_tup, wS_exp, wS_nam, wS_sub, wS_tup, wS_par, wS_ret0, wS_ret, wS_ite, wS_for, wS_whl, wS_pass, wS_dead, wT_nil, wT_cons, onB_bl, onV_some, onO_some, onI_int, onZ_bl, List.getElem?_cons_zero, List.getElem?_cons_succ, List.set_cons_zero, List.set_cons_succ, decide_eq_true_eq, wF_len, wF_lent, wF_lens, wF_lst, wF_tup, wF_sum, wF_min, wF_max, wF_inti, wF_intb, wF_str, wM_app, wM_popA, wM_join, wM_split, rcv_app, rcv_popA, rcv_join, rcv_split, wR_1, wR_2, wZ_3, wZ_2, walk_tup, walk_fl, wU_fl, wT_strs, at0, at1, at2, at3, at4, atL, items_tup, items_fl, true_and, Option.isSome_some, List.length_set, ixn_4_0, ixn_4_1, ixn_4_2, ixn_4_3, List.length_cons, List.length_nil, Nat.zero_add, Nat.reduceAdd, Nat.reduceLT, Nat.reduceLeDiff, ne_eq, Nat.reduceEqDiff, Int.reducePow, Int.reduceToNat, Int.reduceEq, Int.reduceLT, Int.reduceLE, Int.reduceNeg, not_false_eq_true, reduceIte, Bool.false_eq_true, List.map_cons, List.map_nil, List.eraseIdx_cons_zero, not_true_eq_false, Bool.not_true, Bool.not_false, List.length_append, List.append_assoc, List.cons_append, List.nil_append, List.append_nil, items_W, items_W0, items_c0, items_c1, items_c2, items_c3, items_c4, lst_W, lst_W0, lst_c0, lst_c1, lst_c2, lst_c3, set_W, wB_addl, Nat.add_assoc, items_cs, items_last, wI_strW, wC_in, wC_notin, opIn_sign, walk_str, wF_intS, wT_tt, wT_tl, wT_it, wT_il, wT_is, wT_ii, wT_ib, wF_all, isNon_non, isNon_int, isNon_ref, isNon_tup, isNon_str, items_V, lst_V, set_V, bls_repW, all_repW, lst_last, set_last, walk_c0, strs_mapD, wp_quiet, bind3, bind2, bindU2, bindU3, atLm, map_snoc_int, ints_mapD, items_ss, set_W0, Option.map_some, Nat.add_zero, hl]
      refine ⟨bigL (by rcases ka with ka | ka <;> rw [ka] <;> decide), ?_⟩
      refine ⟨by decide, take_q L hT (by decide) (by decide) fun c T2 c0 c1 h2 => ?_⟩
      obtain ⟨w, hw, w0⟩ : ∃ w, atI [D.int 2, .int 60] c = some (.int w) ∧ 0 ≤ w ∧ w ≤ 60 := by
        rcases (by omega : c = 0 ∨ c = 1) with rfl | rfl
        · exact ⟨2, rfl, by decide, by decide⟩
        · exact ⟨60, rfl, by decide, by decide⟩
      simp only [wE_var, wE_cst, wE_glb, wE_bin, wE_neg, wE_cmp, wE_chn, wE_band, wE_bor, wE_not, wE_ite, wE_tup, wE_lst, wE_ix, wE_slc, wE_call, wE_blt, wE_isi, wE_mth, wE_one, wE_comp, wE_fst, wL_nil, wL_cons, wO_none, wO_some, wC_none, wC_some, wF_nil, wF_cons, wI_seq, wI_rng, wI_zip, wI_enm, wB_add, wB_adds, wB_addt, wB_sub, wB_mul, wB_fdv, wB_mod, wB_pow, wC_lt, wC_le, wC_gt, wC_ge, wC_eq, wC_ne, wC_is, wC_isnot, eqD_int, eqD_str, eqD_bl, wI_ref, wI_tup, wS_exp, wS_nam, wS_sub, wS_tup, wS_par, wS_ret0, wS_ret, wS_ite, wS_for, wS_whl, wS_pass, wS_dead, wT_nil, wT_cons, onB_bl, onV_some, onO_some, onI_int, onZ_bl, List.getElem?_cons_zero, List.getElem?_cons_succ, List.set_cons_zero, List.set_cons_succ, decide_eq_true_eq, wF_len, wF_lent, wF_lens, wF_lst, wF_tup, wF_sum, wF_min, wF_max, wF_inti, wF_intb, wF_str, wM_app, wM_popA, wM_join, wM_split, rcv_app, rcv_popA, rcv_join, rcv_split, wR_1, wR_2, wZ_3, wZ_2, walk_tup, walk_fl, wU_fl, wT_strs, at0, at1, at2, at3, at4, atL, items_tup, items_fl, true_and, Option.isSome_some, List.length_set, ixn_4_0, ixn_4_1, ixn_4_2, ixn_4_3, List.length_cons, List.length_nil, Nat.zero_add, Nat.reduceAdd, Nat.reduceLT, Nat.reduceLeDiff, ne_eq, Nat.reduceEqDiff, Int.reducePow, Int.reduceToNat, Int.reduceEq, Int.reduceLT, Int.reduceLE, Int.reduceNeg, not_false_eq_true, reduceIte, Bool.false_eq_true, List.map_cons, List.map_nil, List.eraseIdx_cons_zero, not_true_eq_false, Bool.not_true, Bool.not_false, List.length_append, List.append_assoc, List.cons_append, List.nil_append, List.append_nil, items_W, items_W0, items_c0, items_c1, items_c2, items_c3, items_c4, lst_W, lst_W0, lst_c0, lst_c1, lst_c2, lst_c3, set_W, wB_addl, Nat.add_assoc, items_cs, items_last, wI_strW, wC_in, wC_notin, opIn_sign, walk_str, wF_intS, wT_tt, wT_tl, wT_it, wT_il, wT_is, wT_ii, wT_ib, wF_all, isNon_non, isNon_int, isNon_ref, isNon_tup, isNon_str, items_V, lst_V, set_V, bls_repW, all_repW, lst_last, set_last, walk_c0, strs_mapD, wp_quiet, bind3, bind2, bindU2, bindU3, atLm, map_snoc_int, ints_mapD, items_ss, set_W0, Option.map_some, Nat.add_zero, h2.1, hw]
      obtain ⟨z, hz, z0, z1, z2⟩ : ∃ z, (if w < rest then w else rest) = z ∧ 0 ≤ z ∧ z ≤ rest ∧ z ≤ 60 := by
        refine ⟨_, rfl, ?_⟩
        split <;> omega
      rw [hz]
      refine take_q L h2 (by omega) (by omega) fun v T3 v0 v1 h3 => ?_
      have hx2 : x.toNat < ps.length := by omega
      rcases kb with kb | kb
      · have j1 : ixN (r0.map D.int).length x = some x.toNat := ix_in x0 (by rw [List.length_map]; omega)
        have j2 : atI ((r0.set x.toNat v).map D.int) x = some (.int v) := at_in x0 (by rw [List.getElem?_map, List.getElem?_set_self (by omega)]; rfl)
        simp only [wE_var, wE_cst, wE_glb, wE_bin, wE_neg, wE_cmp, wE_chn, wE_band, wE_bor, wE_not, wE_ite, wE_tup, wE_lst, wE_ix, wE_slc, wE_call, wE_blt, wE_isi, wE_mth, wE_one, wE_comp, wE_fst, wL_nil, wL_cons, wO_none, wO_some, wC_none, wC_some, wF_nil, wF_cons, wI_seq, wI_rng, wI_zip, wI_enm, wB_add, wB_adds, wB_addt, wB_sub, wB_mul, wB_fdv, wB_mod, wB_pow, wC_lt, wC_le, wC_gt, wC_ge, wC_eq, wC_ne, wC_is, wC_isnot, eqD_int, eqD_str, eqD_bl, wI_ref, wI_tup, wS_exp, wS_nam, wS_sub, wS_tup, wS_par, wS_ret0, wS_ret, wS_ite, wS_for, wS_whl, wS_pass, wS_dead, wT_nil, wT_cons, onB_bl, onV_some, onO_some, onI_int, onZ_bl, List.getElem?_cons_zero, List.getElem?_cons_succ, List.set_cons_zero, List.set_cons_succ, decide_eq_true_eq, wF_len, wF_lent, wF_lens, wF_lst, wF_tup, wF_sum, wF_min, wF_max, wF_inti, wF_intb, wF_str, wM_app, wM_popA, wM_join, wM_split, rcv_app, rcv_popA, rcv_join, rcv_split, wR_1, wR_2, wZ_3, wZ_2, walk_tup, walk_fl, wU_fl, wT_strs, at0, at1, at2, at3, at4, atL, items_tup, items_fl, true_and, Option.isSome_some, List.length_set, ixn_4_0, ixn_4_1, ixn_4_2, ixn_4_3, List.length_cons, List.length_nil, Nat.zero_add, Nat.reduceAdd, Nat.reduceLT, Nat.reduceLeDiff, ne_eq, Nat.reduceEqDiff, Int.reducePow, Int.reduceToNat, Int.reduceEq, Int.reduceLT, Int.reduceLE, Int.reduceNeg, not_false_eq_true, reduceIte, Bool.false_eq_true, List.map_cons, List.map_nil, List.eraseIdx_cons_zero, not_true_eq_false, Bool.not_true, Bool.not_false, List.length_append, List.append_assoc, List.cons_append, List.nil_append, List.append_nil, items_W, items_W0, items_c0, items_c1, items_c2, items_c3, items_c4, lst_W, lst_W0, lst_c0, lst_c1, lst_c2, lst_c3, set_W, wB_addl, Nat.add_assoc, items_cs, items_last, wI_strW, wC_in, wC_notin, opIn_sign, walk_str, wF_intS, wT_tt, wT_tl, wT_it, wT_il, wT_is, wT_ii, wT_ib, wF_all, isNon_non, isNon_int, isNon_ref, isNon_tup, isNon_str, items_V, lst_V, set_V, bls_repW, all_repW, lst_last, set_last, walk_c0, strs_mapD, wp_quiet, bind3, bind2, bindU2, bindU3, atLm, map_snoc_int, ints_mapD, items_ss, set_W0, Option.map_some, Nat.add_zero, h3.1, kb, hx, j1, map_set_int, j2]
        exact ⟨by decide, by decide, _, _, _, T3, _, _, _, _, _, _, _, rfl, rfl, h3, hr0.set v0 (by omega), hr1, by rw [List.length_set]; exact e2, e3, by omega, by omega, hF.set0 xE (by omega) v0, by have := sum_set (x := x.toNat) hr0 v0; omega⟩
      · have j1 : ixN (r1.map D.int).length x = some x.toNat := ix_in x0 (by rw [List.length_map]; omega)
        have j2 : atI ((r1.set x.toNat v).map D.int) x = some (.int v) := at_in x0 (by rw [List.getElem?_map, List.getElem?_set_self (by omega)]; rfl)
        simp only [wE_var, wE_cst, wE_glb, wE_bin, wE_neg, wE_cmp, wE_chn, wE_band, wE_bor, wE_not, wE_ite, wE_tup, wE_lst, wE_ix, wE_slc, wE_call, wE_blt, wE_isi, wE_mth, wE_one, wE_comp, wE_fst, wL_nil, wL_cons, wO_none, wO_some, wC_none, wC_some, wF_nil, wF_cons, wI_seq, wI_rng, wI_zip, wI_enm, wB_add, wB_adds, wB_addt, wB_sub, wB_mul, wB_fdv, wB_mod, wB_pow, wC_lt, wC_le, wC_gt, wC_ge, wC_eq, wC_ne, wC_is, wC_isnot, eqD_int, eqD_str, eqD_bl, wI_ref, wI_tup, wS_exp, wS_nam, wS_sub, wS_tup, wS_par, wS_ret0, wS_ret, wS_ite, wS_for, wS_whl, wS_pass, wS_dead, wT_nil, wT_cons, onB_bl, onV_some, onO_some, onI_int, onZ_bl, List.getElem?_cons_zero, List.getElem?_cons_succ, List.set_cons_zero, List.set_cons_succ, decide_eq_true_eq, wF_len, wF_lent, wF_lens, wF_lst, wF_tup, wF_sum, wF_min, wF_max, wF_inti, wF_intb, wF_str, wM_app, wM_popA, wM_join, wM_split, rcv_app, rcv_popA, rcv_join, rcv_split, wR_1, wR_2, wZ_3, wZ_2, walk_tup, walk_fl, wU_fl, wT_strs, at0, at1, at2, at3, at4, atL, items_tup, items_fl, true_and, Option.isSome_some, List.length_set, ixn_4_0, ixn_4_1, ixn_4_2, ixn_4_3, List.length_cons, List.length_nil, Nat.zero_add, Nat.reduceAdd, Nat.reduceLT, Nat.reduceLeDiff, ne_eq, Nat.reduceEqDiff, Int.reducePow, Int.reduceToNat, Int.reduceEq, Int.reduceLT, Int.reduceLE, Int.reduceNeg, not_false_eq_true, reduceIte, Bool.false_eq_true, List.map_cons, List.map_nil, List.eraseIdx_cons_zero, not_true_eq_false, Bool.not_true, Bool.not_false, List.length_append, List.append_assoc, List.cons_append, List.nil_append, List.append_nil, items_W, items_W0, items_c0, items_c1, items_c2, items_c3, items_c4, lst_W, lst_W0, lst_c0, lst_c1, lst_c2, lst_c3, set_W, wB_addl, Nat.add_assoc, items_cs, items_last, wI_strW, wC_in, wC_notin, opIn_sign, walk_str, wF_intS, wT_tt, wT_tl, wT_it, wT_il, wT_is, wT_ii, wT_ib, wF_all, isNon_non, isNon_int, isNon_ref, isNon_tup, isNon_str, items_V, lst_V, set_V, bls_repW, all_repW, lst_last, set_last, walk_c0, strs_mapD, wp_quiet, bind3, bind2, bindU2, bindU3, atLm, map_snoc_int, ints_mapD, items_ss, set_W0, Option.map_some, Nat.add_zero, h3.1, kb, hx, j1, map_set_int, j2]
        exact ⟨by decide, by decide, _, _, _, T3, _, _, _, _, _, _, _, rfl, rfl, h3, hr0, hr1.set v0 (by omega), e2, by rw [List.length_set]; exact e3, by omega, by omega, hF.set1 xE (by omega) v0, by have := sum_set (x := x.toNat) hr1 v0; omega⟩
    · rintro σ S ⟨r0, r1, rest, T', G, y4, y6, y7, y8, y9, y10, rfl, rfl, hT, hr0, hr1, e2, e3, q0, q1, hF, hS⟩
      have hl := hT.1
      simp only [wE_var, wE_cst, wE_glb, wE_bin, wE_neg, wE_cmp, wE_chn, wE_band, wE_bor, wE_not, wE_ite, wE_tup, wE_lst, wE_ix, wE_slc, wE_call, wE_blt, wE_isi, wE_mth, wE_one, wE_comp, wE_fst, wL_nil, wL_cons, wO_none, wO_some, wC_none, wC_some, wF_nil, wF_cons, wI_seq, wI_rng, wI_zip, wI_enm, wB_add, wB_adds, wB_addt, wB_sub, wB_mul, wB_fdv, wB_mod, wB_pow, wC_lt, wC_le, wC_gt, wC_ge, wC_eq, wC_ne, wC_is, wC_isnot, eqD_int, eqD_str, eqD_bl, wI_ref, wI_tup, wS_exp, wS_nam, wS_sub, wS_tup, wS_par, wS_ret0, wS_ret, wS_ite, wS_for, wS_whl, wS_pass, wS_dead, wT_nil, wT_cons, onB_bl, onV_some, onO_some, onI_int, onZ_bl, List.getElem?_cons_zero, List.getElem?_cons_succ, List.set_cons_zero, List.set_cons_succ, decide_eq_true_eq, wF_len, wF_lent, wF_lens, wF_lst, wF_tup, wF_sum, wF_min, wF_max, wF_inti, wF_intb, wF_str, wM_app, wM_popA, wM_join, wM_split, rcv_app, rcv_popA, rcv_join, rcv_split, wR_1, wR_2, wZ_3, wZ_2, walk_tup, walk_fl, wU_fl, wT_strs, at0, at1, at2, at3, at4, atL, items_tup, items_fl, true_and, Option.isSome_some, List.length_set, ixn_4_0, ixn_4_1, ixn_4_2, ixn_4_3, List.length_cons, List.length_nil, Nat.zero_add, Nat.reduceAdd, Nat.reduceLT, Nat.reduceLeDiff, ne_eq, Nat.reduceEqDiff, Int.reducePow, Int.reduceToNat, Int.reduceEq, Int.reduceLT, Int.reduceLE, Int.reduceNeg, not_false_eq_true, reduceIte, Bool.false_eq_true, List.map_cons, List.map_nil, List.eraseIdx_cons_zero, not_true_eq_false, Bool.not_true, Bool.not_false, List.length_append, List.append_assoc, List.cons_append, List.nil_append, List.append_nil, items_W, items_W0, items_c0, items_c1, items_c2, items_c3, items_c4, lst_W, lst_W0, lst_c0, lst_c1, lst_c2, lst_c3, set_W, wB_addl, Nat.add_assoc, items_cs, items_last, wI_strW, wC_in, wC_notin, opIn_sign, walk_str, wF_intS, wT_tt, wT_tl, wT_it, wT_il, wT_is, wT_ii, wT_ib, wF_all, isNon_non, isNon_int, isNon_ref, isNon_tup, isNon_str, items_V, lst_V, set_V, bls_repW, all_repW, lst_last, set_last, walk_c0, strs_mapD, wp_quiet, bind3, bind2, bindU2, bindU3, atLm, map_snoc_int, ints_mapD, items_ss, set_W0, Option.map_some, Nat.add_zero, hl]
      exact ⟨by decide, q lv r0 r1 T' _ hlv hr0 hr1 e1 e2 e3 hF (by omega) hT⟩
end
end Swl

set_option Elab.async false
set_option linter.all false
set_option maxRecDepth 100000
set_option maxHeartbeats 1000000
namespace Swl
open PySem PySem.Spec PyProof.Rows L2 Sw K80
section
variable {Tb : Tab} {gl : GL}
theorem cutD_int {ns : List Int} {lo hi : Option Int} : ∃ ms : List Int, Sw.cutD (ns.map D.int) lo hi = ms.map D.int := by
  unfold Sw.cutD
  exact ⟨_, by rw [List.map_take, List.map_drop]⟩
theorem tape_w (L3 : Tb.lookup ("_law_tape" : Str) = some d__law_tape) {n : Nat} {ns : List Int} {Q : D → Sto → Prop} {X : XR}
    (q : ∀ T, Tp 3 4 T → Q (.ref 3) T) : (callN Tb gl (n + 1) ("_law_tape" : Str) [.fl (ns.map D.int)] []).wp Q X := by
  rw [callW (σ := [some (.fl (ns.map D.int)), none, none]) L3 rfl rfl]
  simp only [d__law_tape, wE_var, wE_cst, wE_glb, wE_bin, wE_neg, wE_cmp, wE_chn, wE_band, wE_bor, wE_not, wE_ite, wE_tup, wE_lst, wE_ix, wE_slc, wE_call, wE_blt, wE_isi, wE_mth, wE_one, wE_comp, wE_fst, wL_nil, wL_cons, wO_none, wO_some, wC_none, wC_some, wF_nil, wF_cons, wI_seq, wI_rng, wI_zip, wI_enm, wB_add, wB_adds, wB_addt, wB_sub, wB_mul, wB_fdv, wB_mod, wB_pow, wC_lt, wC_le, wC_gt, wC_ge, wC_eq, wC_ne, wC_is, wC_isnot, eqD_int, eqD_str, eqD_bl, wI_ref, wI_tup, wS_exp, wS_nam, wS_sub, wS_tup, wS_par, wS_ret0, wS_ret, wS_ite, wS_for, wS_whl, wS_pass, wS_dead, wT_nil, wT_cons, onB_bl, onV_some, onO_some, onI_int, onZ_bl, List.getElem?_cons_zero, List.getElem?_cons_succ, List.set_cons_zero, List.set_cons_succ, decide_eq_true_eq, wF_len, wF_lent, wF_lens, wF_lst, wF_tup, wF_sum, wF_min, wF_max, wF_inti, wF_intb, wF_str, wM_app, wM_popA, wM_join, wM_split, rcv_app, rcv_popA, rcv_join, rcv_split, wR_1, wR_2, wZ_3, wZ_2, walk_tup, walk_fl, wU_fl, wT_strs, at0, at1, at2, at3, at4, atL, items_tup, items_fl, true_and, Option.isSome_some, List.length_set, ixn_4_0, ixn_4_1, ixn_4_2, ixn_4_3, List.length_cons, List.length_nil, Nat.zero_add, Nat.reduceAdd, Nat.reduceLT, Nat.reduceLeDiff, ne_eq, Nat.reduceEqDiff, Int.reducePow, Int.reduceToNat, Int.reduceEq, Int.reduceLT, Int.reduceLE, Int.reduceNeg, not_false_eq_true, reduceIte, Bool.false_eq_true, List.map_cons, List.map_nil, List.eraseIdx_cons_zero, not_true_eq_false, Bool.not_true, Bool.not_false, List.length_append, List.append_assoc, List.cons_append, List.nil_append, List.append_nil, items_W, items_W0, items_c0, items_c1, items_c2, items_c3, items_c4, lst_W, lst_W0, lst_c0, lst_c1, lst_c2, lst_c3, set_W, wB_addl, Nat.add_assoc, items_cs, items_last, wI_strW, wC_in, wC_notin, opIn_sign, walk_str, wF_intS, wT_tt, wT_tl, wT_it, wT_il, wT_is, wT_ii, wT_ib, wF_all, isNon_non, isNon_int, isNon_ref, isNon_tup, isNon_str, items_V, lst_V, set_V, bls_repW, all_repW, lst_last, set_last, walk_c0, strs_mapD, wp_quiet, bind3, bind2, bindU2, bindU3, atLm, map_snoc_int, ints_mapD, items_ss, set_W0, Option.map_some, Nat.add_zero]
  obtain ⟨ms, hms⟩ := cutD_int (ns := ns) (lo := none) (hi := some 63)
  rw [hms]
  refine forW1 (fun i σ S => ∃ (sd : Int) (y2 : Option D), σ = [some (.fl (ns.map D.int)), some (.int sd), y2] ∧ S = [.lst (ms.map D.int)]) ⟨0, none, rfl, rfl⟩ ?_ ?_ ?_
  · rintro i σ S ⟨sd, y2, rfl, rfl⟩
    exact stab_one rfl
  · rintro i d σ S ⟨sd, y2, rfl, rfl⟩ hd
    rw [List.getElem?_map, Option.map_eq_some_iff] at hd
    obtain ⟨x, _, rfl⟩ := hd
    simp only [bind1, wE_var, wE_cst, wE_glb, wE_bin, wE_neg, wE_cmp, wE_chn, wE_band, wE_bor, wE_not, wE_ite, wE_tup, wE_lst, wE_ix, wE_slc, wE_call, wE_blt, wE_isi, wE_mth, wE_one, wE_comp, wE_fst, wL_nil, wL_cons, wO_none, wO_some, wC_none, wC_some, wF_nil, wF_cons, wI_seq, wI_rng, wI_zip, wI_enm, wB_add, wB_adds, wB_addt, wB_sub, wB_mul, wB_fdv, wB_mod, wB_pow, wC_lt, wC_le, wC_gt, wC_ge, wC_eq, wC_ne, wC_is, wC_isnot, eqD_int, eqD_str, eqD_bl, wI_ref, wI_tup, wS_exp, wS_nam, wS_sub, wS_tup, wS_par, wS_ret0, wS_ret, wS_ite, wS_for, wS_whl, wS_pass, wS_dead, wT_nil, wT_cons, onB_bl, onV_some, onO_some, onI_int, onZ_bl, List.getElem?_cons_zero, List.getElem?_cons_succ, List.set_cons_zero, List.set_cons_succ, decide_eq_true_eq, wF_len, wF_lent, wF_lens, wF_lst, wF_tup, wF_sum, wF_min, wF_max, wF_inti, wF_intb, wF_str, wM_app, wM_popA, wM_join, wM_split, rcv_app, rcv_popA, rcv_join, rcv_split, wR_1, wR_2, wZ_3, wZ_2, walk_tup, walk_fl, wU_fl, wT_strs, at0, at1, at2, at3, at4, atL, items_tup, items_fl, true_and, Option.isSome_some, List.length_set, ixn_4_0, ixn_4_1, ixn_4_2, ixn_4_3, List.length_cons, List.length_nil, Nat.zero_add, Nat.reduceAdd, Nat.reduceLT, Nat.reduceLeDiff, ne_eq, Nat.reduceEqDiff, Int.reducePow, Int.reduceToNat, Int.reduceEq, Int.reduceLT, Int.reduceLE, Int.reduceNeg, not_false_eq_true, reduceIte, Bool.false_eq_true, List.map_cons, List.map_nil, List.eraseIdx_cons_zero, not_true_eq_false, Bool.not_true, Bool.not_false, List.length_append, List.append_assoc, List.cons_append, List.nil_append, List.append_nil, items_W, items_W0, items_c0, items_c1, items_c2, items_c3, items_c4, lst_W, lst_W0, lst_c0, lst_c1, lst_c2, lst_c3, set_W, wB_addl, Nat.add_assoc, items_cs, items_last, wI_strW, wC_in, wC_notin, opIn_sign, walk_str, wF_intS, wT_tt, wT_tl, wT_it, wT_il, wT_is, wT_ii, wT_ib, wF_all, isNon_non, isNon_int, isNon_ref, isNon_tup, isNon_str, items_V, lst_V, set_V, bls_repW, all_repW, lst_last, set_last, walk_c0, strs_mapD, wp_quiet, bind3, bind2, bindU2, bindU3, atLm, map_snoc_int, ints_mapD, items_ss, set_W0, Option.map_some, Nat.add_zero]
    exact ⟨bigR (by decide), _, _, rfl, trivial⟩
  · rintro σ S ⟨sd, y2, rfl, rfl⟩
    simp only [wE_var, wE_cst, wE_glb, wE_bin, wE_neg, wE_cmp, wE_chn, wE_band, wE_bor, wE_not, wE_ite, wE_tup, wE_lst, wE_ix, wE_slc, wE_call, wE_blt, wE_isi, wE_mth, wE_one, wE_comp, wE_fst, wL_nil, wL_cons, wO_none, wO_some, wC_none, wC_some, wF_nil, wF_cons, wI_seq, wI_rng, wI_zip, wI_enm, wB_add, wB_adds, wB_addt, wB_sub, wB_mul, wB_fdv, wB_mod, wB_pow, wC_lt, wC_le, wC_gt, wC_ge, wC_eq, wC_ne, wC_is, wC_isnot, eqD_int, eqD_str, eqD_bl, wI_ref, wI_tup, wS_exp, wS_nam, wS_sub, wS_tup, wS_par, wS_ret0, wS_ret, wS_ite, wS_for, wS_whl, wS_pass, wS_dead, wT_nil, wT_cons, onB_bl, onV_some, onO_some, onI_int, onZ_bl, List.getElem?_cons_zero, List.getElem?_cons_succ, List.set_cons_zero, List.set_cons_succ, decide_eq_true_eq, wF_len, wF_lent, wF_lens, wF_lst, wF_tup, wF_sum, wF_min, wF_max, wF_inti, wF_intb, wF_str, wM_app, wM_popA, wM_join, wM_split, rcv_app, rcv_popA, rcv_join, rcv_split, wR_1, wR_2, wZ_3, wZ_2, walk_tup, walk_fl, wU_fl, wT_strs, at0, at1, at2, at3, at4, atL, items_tup, items_fl, true_and, Option.isSome_some, List.length_set, ixn_4_0, ixn_4_1, ixn_4_2, ixn_4_3, List.length_cons, List.length_nil, Nat.zero_add, Nat.reduceAdd, Nat.reduceLT, Nat.reduceLeDiff, ne_eq, Nat.reduceEqDiff, Int.reducePow, Int.reduceToNat, Int.reduceEq, Int.reduceLT, Int.reduceLE, Int.reduceNeg, not_false_eq_true, reduceIte, Bool.false_eq_true, List.map_cons, List.map_nil, List.eraseIdx_cons_zero, not_true_eq_false, Bool.not_true, Bool.not_false, List.length_append, List.append_assoc, List.cons_append, List.nil_append, List.append_nil, items_W, items_W0, items_c0, items_c1, items_c2, items_c3, items_c4, lst_W, lst_W0, lst_c0, lst_c1, lst_c2, lst_c3, set_W, wB_addl, Nat.add_assoc, items_cs, items_last, wI_strW, wC_in, wC_notin, opIn_sign, walk_str, wF_intS, wT_tt, wT_tl, wT_it, wT_il, wT_is, wT_ii, wT_ib, wF_all, isNon_non, isNon_int, isNon_ref, isNon_tup, isNon_str, items_V, lst_V, set_V, bls_repW, all_repW, lst_last, set_last, walk_c0, strs_mapD, wp_quiet, bind3, bind2, bindU2, bindU3, atLm, map_snoc_int, ints_mapD, items_ss, set_W0, Option.map_some, Nat.add_zero, hms]
    exact ⟨by decide, q _ ⟨rfl, 2, ms, 0, sd, 0, by decide, by decide, by decide, rfl, rfl⟩⟩
/-- one place's words -/
def line (p : Int × Int × Int) : Str := toString p.1 ++ (":" : Str) ++ toString p.2.1 ++ (":" : Str) ++ toString p.2.2
def sm (p : Int × Int × Int) : Prop := (-100 < p.1 ∧ p.1 < 100) ∧ (-100 < p.2.1 ∧ p.2.1 < 100) ∧ (-100 < p.2.2 ∧ p.2.2 < 100)
theorem ts_len {i : Int} {k : Nat} (hk : 0 < k) (h : i.natAbs < 10 ^ k) : (toString i : Str).length ≤ k + 1 := by
  show (Str.ofString (toString i)).length ≤ k + 1
  rw [PySem.ofString_length]
  exact int_text_length_le10 hk h
theorem ts2 {i : Int} (h : -100 < i ∧ i < 100) : (toString i : Str).length ≤ 3 := ts_len (k := 2) (by decide) (by omega)
theorem lg2 {i : Int} (h : -100 < i ∧ i < 100) : i.natAbs.log2 < 1920 := by
  by_cases h0 : i.natAbs = 0
  · rw [h0]; decide
  · rw [Nat.log2_lt h0]
    exact Nat.lt_of_lt_of_le (show i.natAbs < 2 ^ 7 by omega) (Nat.pow_le_pow_right (by decide) (by decide))
theorem colon_len : ((":" : Str)).length = 1 := by decide
theorem line_len {p : Int × Int × Int} (h : sm p) : (line p).length ≤ 11 := by
  unfold line
  simp only [Str.length_append, colon_len]
  have := ts2 h.1
  have := ts2 h.2.1
  have := ts2 h.2.2
  omega
theorem zip3_map : ∀ (a b c : List Int), (((a.map D.int).zip ((b.map D.int).zip (c.map D.int))).map fun p => D.tup [p.1, p.2.1, p.2.2]) = (a.zip (b.zip c)).map fun p => D.tup [.int p.1, .int p.2.1, .int p.2.2]
  | [], _, _ => rfl
  | _ :: _, [], _ => rfl
  | _ :: _, _ :: _, [] => rfl
  | x :: a, y :: b, z :: c => by
    have := zip3_map a b c
    simp only [List.map_cons, List.zip_cons_cons]
    rw [this]
theorem sum_len : ∀ {ys : List Str}, (∀ y ∈ ys, y.length ≤ 20) → (ys.map (·.length)).sum ≤ 20 * ys.length
  | [], _ => by simp
  | y :: ys, h => by
    have h1 := h y (List.mem_cons_self ..)
    have h2 := sum_len (fun x hx => h x (List.mem_cons_of_mem _ hx))
    simp only [List.map_cons, List.sum_cons, List.length_cons]
    omega
theorem stand_text_w (L3 : Tb.lookup ("stand_text" : Str) = some d_stand_text) {n : Nat} {a b c : List Int} {S : Sto} (hs : ∀ p ∈ a.zip (b.zip c), sm p) (hl : (a.zip (b.zip c)).length ≤ 10000) {Q : D → Sto → Prop} {X : XR}
    (q : ∀ G, Q (.str (Txt.join (" " : Str) ((a.zip (b.zip c)).map line))) (S ++ G)) : (callN Tb gl (n + 1) ("stand_text" : Str) [.tup [.tup (a.map D.int), .tup (b.map D.int), .tup (c.map D.int)]] S).wp Q X := by
  rw [callW (σ := [some (.tup [.tup (a.map D.int), .tup (b.map D.int), .tup (c.map D.int)]), none, none, none]) L3 rfl rfl]
  simp only [d_stand_text, wE_var, wE_cst, wE_glb, wE_bin, wE_neg, wE_cmp, wE_chn, wE_band, wE_bor, wE_not, wE_ite, wE_tup, wE_lst, wE_ix, wE_slc, wE_call, wE_blt, wE_isi, wE_mth, wE_one, wE_comp, wE_fst, wL_nil, wL_cons, wO_none, wO_some, wC_none, wC_some, wF_nil, wF_cons, wI_seq, wI_rng, wI_zip, wI_enm, wB_add, wB_adds, wB_addt, wB_sub, wB_mul, wB_fdv, wB_mod, wB_pow, wC_lt, wC_le, wC_gt, wC_ge, wC_eq, wC_ne, wC_is, wC_isnot, eqD_int, eqD_str, eqD_bl, wI_ref, wI_tup, wS_exp, wS_nam, wS_sub, wS_tup, wS_par, wS_ret0, wS_ret, wS_ite, wS_for, wS_whl, wS_pass, wS_dead, wT_nil, wT_cons, onB_bl, onV_some, onO_some, onI_int, onZ_bl, List.getElem?_cons_zero, List.getElem?_cons_succ, List.set_cons_zero, List.set_cons_succ, decide_eq_true_eq, wF_len, wF_lent, wF_lens, wF_lst, wF_tup, wF_sum, wF_min, wF_max, wF_inti, wF_intb, wF_str, wM_app, wM_popA, wM_join, wM_split, rcv_app, rcv_popA, rcv_join, rcv_split, wR_1, wR_2, wZ_3, wZ_2, walk_tup, walk_fl, wU_fl, wT_strs, at0, at1, at2, at3, at4, atL, items_tup, items_fl, true_and, Option.isSome_some, List.length_set, ixn_4_0, ixn_4_1, ixn_4_2, ixn_4_3, List.length_cons, List.length_nil, Nat.zero_add, Nat.reduceAdd, Nat.reduceLT, Nat.reduceLeDiff, ne_eq, Nat.reduceEqDiff, Int.reducePow, Int.reduceToNat, Int.reduceEq, Int.reduceLT, Int.reduceLE, Int.reduceNeg, not_false_eq_true, reduceIte, Bool.false_eq_true, List.map_cons, List.map_nil, List.eraseIdx_cons_zero, not_true_eq_false, Bool.not_true, Bool.not_false, List.length_append, List.append_assoc, List.cons_append, List.nil_append, List.append_nil, items_W, items_W0, items_c0, items_c1, items_c2, items_c3, items_c4, lst_W, lst_W0, lst_c0, lst_c1, lst_c2, lst_c3, set_W, wB_addl, Nat.add_assoc, items_cs, items_last, wI_strW, wC_in, wC_notin, opIn_sign, walk_str, wF_intS, wT_tt, wT_tl, wT_it, wT_il, wT_is, wT_ii, wT_ib, wF_all, isNon_non, isNon_int, isNon_ref, isNon_tup, isNon_str, items_V, lst_V, set_V, bls_repW, all_repW, lst_last, set_last, walk_c0, strs_mapD, wp_quiet, bind3, bind2, bindU2, bindU3, atLm, map_snoc_int, ints_mapD, items_ss, set_W0, Option.map_some, Nat.add_zero, zip3_map]
  have hsl : sizeLine = 16777216 := rfl
  refine compW (fun i acc S' => S' = S ∧ acc = (((a.zip (b.zip c)).take i).map line).map D.str) ⟨rfl, rfl⟩ (fun _ _ _ _ => stab_nil) ?_ ?_
  · rintro i d acc S' ⟨rfl, rfl⟩ hd
    rw [List.getElem?_map, Option.map_eq_some_iff] at hd
    obtain ⟨p, hp, rfl⟩ := hd
    have hm := hs p (List.mem_of_getElem? hp)
    have hi := (List.getElem?_eq_some_iff.1 hp).1
    have f1 := fmt_int (lg2 hm.1)
    have f2 := fmt_int (lg2 hm.2.1)
    have f3 := fmt_int (lg2 hm.2.2)
    have f4 : fmt (.str (":" : Str)) = some (":" : Str) := fmt_strW (by decide)
    simp only [wE_var, wE_cst, wE_glb, wE_bin, wE_neg, wE_cmp, wE_chn, wE_band, wE_bor, wE_not, wE_ite, wE_tup, wE_lst, wE_ix, wE_slc, wE_call, wE_blt, wE_isi, wE_mth, wE_one, wE_comp, wE_fst, wL_nil, wL_cons, wO_none, wO_some, wC_none, wC_some, wF_nil, wF_cons, wI_seq, wI_rng, wI_zip, wI_enm, wB_add, wB_adds, wB_addt, wB_sub, wB_mul, wB_fdv, wB_mod, wB_pow, wC_lt, wC_le, wC_gt, wC_ge, wC_eq, wC_ne, wC_is, wC_isnot, eqD_int, eqD_str, eqD_bl, wI_ref, wI_tup, wS_exp, wS_nam, wS_sub, wS_tup, wS_par, wS_ret0, wS_ret, wS_ite, wS_for, wS_whl, wS_pass, wS_dead, wT_nil, wT_cons, onB_bl, onV_some, onO_some, onI_int, onZ_bl, List.getElem?_cons_zero, List.getElem?_cons_succ, List.set_cons_zero, List.set_cons_succ, decide_eq_true_eq, wF_len, wF_lent, wF_lens, wF_lst, wF_tup, wF_sum, wF_min, wF_max, wF_inti, wF_intb, wF_str, wM_app, wM_popA, wM_join, wM_split, rcv_app, rcv_popA, rcv_join, rcv_split, wR_1, wR_2, wZ_3, wZ_2, walk_tup, walk_fl, wU_fl, wT_strs, at0, at1, at2, at3, at4, atL, items_tup, items_fl, true_and, Option.isSome_some, List.length_set, ixn_4_0, ixn_4_1, ixn_4_2, ixn_4_3, List.length_cons, List.length_nil, Nat.zero_add, Nat.reduceAdd, Nat.reduceLT, Nat.reduceLeDiff, ne_eq, Nat.reduceEqDiff, Int.reducePow, Int.reduceToNat, Int.reduceEq, Int.reduceLT, Int.reduceLE, Int.reduceNeg, not_false_eq_true, reduceIte, Bool.false_eq_true, List.map_cons, List.map_nil, List.eraseIdx_cons_zero, not_true_eq_false, Bool.not_true, Bool.not_false, List.length_append, List.append_assoc, List.cons_append, List.nil_append, List.append_nil, items_W, items_W0, items_c0, items_c1, items_c2, items_c3, items_c4, lst_W, lst_W0, lst_c0, lst_c1, lst_c2, lst_c3, set_W, wB_addl, Nat.add_assoc, items_cs, items_last, wI_strW, wC_in, wC_notin, opIn_sign, walk_str, wF_intS, wT_tt, wT_tl, wT_it, wT_il, wT_is, wT_ii, wT_ib, wF_all, isNon_non, isNon_int, isNon_ref, isNon_tup, isNon_str, items_V, lst_V, set_V, bls_repW, all_repW, lst_last, set_last, walk_c0, strs_mapD, wp_quiet, bind3, bind2, bindU2, bindU3, atLm, map_snoc_int, ints_mapD, items_ss, set_W0, Option.map_some, Nat.add_zero, f1, f2, f3, f4, Str.empty_append]
    have := ts2 hm.1
    have := ts2 hm.2.1
    have := ts2 hm.2.2
    refine ⟨by omega, by rw [Str.length_append, colon_len]; omega, by simp only [Str.length_append, colon_len]; omega, by simp only [Str.length_append, colon_len]; omega, by simp only [Str.length_append, colon_len]; omega, ?_, ?_⟩
    · simp only [List.length_map, List.length_take]
      omega
    · rw [take_snoc hp, List.map_append, List.map_append]
      rfl
  · rintro acc S' ⟨rfl, rfl⟩
    rw [List.length_map, List.take_length]
    simp only [wE_var, wE_cst, wE_glb, wE_bin, wE_neg, wE_cmp, wE_chn, wE_band, wE_bor, wE_not, wE_ite, wE_tup, wE_lst, wE_ix, wE_slc, wE_call, wE_blt, wE_isi, wE_mth, wE_one, wE_comp, wE_fst, wL_nil, wL_cons, wO_none, wO_some, wC_none, wC_some, wF_nil, wF_cons, wI_seq, wI_rng, wI_zip, wI_enm, wB_add, wB_adds, wB_addt, wB_sub, wB_mul, wB_fdv, wB_mod, wB_pow, wC_lt, wC_le, wC_gt, wC_ge, wC_eq, wC_ne, wC_is, wC_isnot, eqD_int, eqD_str, eqD_bl, wI_ref, wI_tup, wS_exp, wS_nam, wS_sub, wS_tup, wS_par, wS_ret0, wS_ret, wS_ite, wS_for, wS_whl, wS_pass, wS_dead, wT_nil, wT_cons, onB_bl, onV_some, onO_some, onI_int, onZ_bl, List.getElem?_cons_zero, List.getElem?_cons_succ, List.set_cons_zero, List.set_cons_succ, decide_eq_true_eq, wF_len, wF_lent, wF_lens, wF_lst, wF_tup, wF_sum, wF_min, wF_max, wF_inti, wF_intb, wF_str, wM_app, wM_popA, wM_join, wM_split, rcv_app, rcv_popA, rcv_join, rcv_split, wR_1, wR_2, wZ_3, wZ_2, walk_tup, walk_fl, wU_fl, wT_strs, at0, at1, at2, at3, at4, atL, items_tup, items_fl, true_and, Option.isSome_some, List.length_set, ixn_4_0, ixn_4_1, ixn_4_2, ixn_4_3, List.length_cons, List.length_nil, Nat.zero_add, Nat.reduceAdd, Nat.reduceLT, Nat.reduceLeDiff, ne_eq, Nat.reduceEqDiff, Int.reducePow, Int.reduceToNat, Int.reduceEq, Int.reduceLT, Int.reduceLE, Int.reduceNeg, not_false_eq_true, reduceIte, Bool.false_eq_true, List.map_cons, List.map_nil, List.eraseIdx_cons_zero, not_true_eq_false, Bool.not_true, Bool.not_false, List.length_append, List.append_assoc, List.cons_append, List.nil_append, List.append_nil, items_W, items_W0, items_c0, items_c1, items_c2, items_c3, items_c4, lst_W, lst_W0, lst_c0, lst_c1, lst_c2, lst_c3, set_W, wB_addl, Nat.add_assoc, items_cs, items_last, wI_strW, wC_in, wC_notin, opIn_sign, walk_str, wF_intS, wT_tt, wT_tl, wT_it, wT_il, wT_is, wT_ii, wT_ib, wF_all, isNon_non, isNon_int, isNon_ref, isNon_tup, isNon_str, items_V, lst_V, set_V, bls_repW, all_repW, lst_last, set_last, walk_c0, strs_mapD, wp_quiet, bind3, bind2, bindU2, bindU3, atLm, map_snoc_int, ints_mapD, items_ss, set_W0, Option.map_some, Nat.add_zero]
    refine ⟨?_, q _⟩
    have e := sum_len (ys := (a.zip (b.zip c)).map line) (fun y hy => by
      obtain ⟨p, hp, rfl⟩ := List.mem_map.1 hy
      have := line_len (hs p hp)
      omega)
    have e2 : ((" " : Str)).length = 1 := by decide
    rw [e2]
    rw [List.length_map] at e ⊢
    omega
theorem law_stand_text_w (L3 : Tb.lookup ("_law_stand_text" : Str) = some d__law_stand_text) {n : Nat} {a b c : List Int} {S : Sto} (hs : ∀ p ∈ a.zip (b.zip c), sm p) (hl : (a.zip (b.zip c)).length ≤ 10000) {Q : D → Sto → Prop} {X : XR}
    (q : ∀ G, Q (.str (Txt.join (" " : Str) ((a.zip (b.zip c)).map line))) (S ++ G)) : (callN Tb gl (n + 1) ("_law_stand_text" : Str) [.tup [.tup (a.map D.int), .tup (b.map D.int), .tup (c.map D.int)]] S).wp Q X := by
  rw [callW (σ := [some (.tup [.tup (a.map D.int), .tup (b.map D.int), .tup (c.map D.int)]), none, none, none, none]) L3 rfl rfl]
  simp only [d__law_stand_text, wE_var, wE_cst, wE_glb, wE_bin, wE_neg, wE_cmp, wE_chn, wE_band, wE_bor, wE_not, wE_ite, wE_tup, wE_lst, wE_ix, wE_slc, wE_call, wE_blt, wE_isi, wE_mth, wE_one, wE_comp, wE_fst, wL_nil, wL_cons, wO_none, wO_some, wC_none, wC_some, wF_nil, wF_cons, wI_seq, wI_rng, wI_zip, wI_enm, wB_add, wB_adds, wB_addt, wB_sub, wB_mul, wB_fdv, wB_mod, wB_pow, wC_lt, wC_le, wC_gt, wC_ge, wC_eq, wC_ne, wC_is, wC_isnot, eqD_int, eqD_str, eqD_bl, wI_ref, wI_tup, wS_exp, wS_nam, wS_sub, wS_tup, wS_par, wS_ret0, wS_ret, wS_ite, wS_for, wS_whl, wS_pass, wS_dead, wT_nil, wT_cons, onB_bl, onV_some, onO_some, onI_int, onZ_bl, List.getElem?_cons_zero, List.getElem?_cons_succ, List.set_cons_zero, List.set_cons_succ, decide_eq_true_eq, wF_len, wF_lent, wF_lens, wF_lst, wF_tup, wF_sum, wF_min, wF_max, wF_inti, wF_intb, wF_str, wM_app, wM_popA, wM_join, wM_split, rcv_app, rcv_popA, rcv_join, rcv_split, wR_1, wR_2, wZ_3, wZ_2, walk_tup, walk_fl, wU_fl, wT_strs, at0, at1, at2, at3, at4, atL, items_tup, items_fl, true_and, Option.isSome_some, List.length_set, ixn_4_0, ixn_4_1, ixn_4_2, ixn_4_3, List.length_cons, List.length_nil, Nat.zero_add, Nat.reduceAdd, Nat.reduceLT, Nat.reduceLeDiff, ne_eq, Nat.reduceEqDiff, Int.reducePow, Int.reduceToNat, Int.reduceEq, Int.reduceLT, Int.reduceLE, Int.reduceNeg, not_false_eq_true, reduceIte, Bool.false_eq_true, List.map_cons, List.map_nil, List.eraseIdx_cons_zero, not_true_eq_false, Bool.not_true, Bool.not_false, List.length_append, List.append_assoc, List.cons_append, List.nil_append, List.append_nil, items_W, items_W0, items_c0, items_c1, items_c2, items_c3, items_c4, lst_W, lst_W0, lst_c0, lst_c1, lst_c2, lst_c3, set_W, wB_addl, Nat.add_assoc, items_cs, items_last, wI_strW, wC_in, wC_notin, opIn_sign, walk_str, wF_intS, wT_tt, wT_tl, wT_it, wT_il, wT_is, wT_ii, wT_ib, wF_all, isNon_non, isNon_int, isNon_ref, isNon_tup, isNon_str, items_V, lst_V, set_V, bls_repW, all_repW, lst_last, set_last, walk_c0, strs_mapD, wp_quiet, bind3, bind2, bindU2, bindU3, atLm, map_snoc_int, ints_mapD, items_ss, set_W0, Option.map_some, Nat.add_zero, zip3_map]
  have hsl : sizeLine = 16777216 := rfl
  refine ⟨by decide, forW0 (fun i σ S' => ∃ y2 y3 y4 : Option D, σ = [some (.tup [.tup (a.map D.int), .tup (b.map D.int), .tup (c.map D.int)]), some (.ref S.length), y2, y3, y4] ∧ S' = S ++ [.lst ((((a.zip (b.zip c)).take i).map line).map D.str)]) ⟨_, _, _, rfl, rfl⟩ ?_ ?_⟩
  · rintro i d σ S' ⟨y2, y3, y4, rfl, rfl⟩ hd
    rw [List.getElem?_map, Option.map_eq_some_iff] at hd
    obtain ⟨p, hp, rfl⟩ := hd
    have hm := hs p (List.mem_of_getElem? hp)
    have hi := (List.getElem?_eq_some_iff.1 hp).1
    have g1 := lg2 hm.1
    have g2 := lg2 hm.2.1
    have g3 := lg2 hm.2.2
    simp only [wE_var, wE_cst, wE_glb, wE_bin, wE_neg, wE_cmp, wE_chn, wE_band, wE_bor, wE_not, wE_ite, wE_tup, wE_lst, wE_ix, wE_slc, wE_call, wE_blt, wE_isi, wE_mth, wE_one, wE_comp, wE_fst, wL_nil, wL_cons, wO_none, wO_some, wC_none, wC_some, wF_nil, wF_cons, wI_seq, wI_rng, wI_zip, wI_enm, wB_add, wB_adds, wB_addt, wB_sub, wB_mul, wB_fdv, wB_mod, wB_pow, wC_lt, wC_le, wC_gt, wC_ge, wC_eq, wC_ne, wC_is, wC_isnot, eqD_int, eqD_str, eqD_bl, wI_ref, wI_tup, wS_exp, wS_nam, wS_sub, wS_tup, wS_par, wS_ret0, wS_ret, wS_ite, wS_for, wS_whl, wS_pass, wS_dead, wT_nil, wT_cons, onB_bl, onV_some, onO_some, onI_int, onZ_bl, List.getElem?_cons_zero, List.getElem?_cons_succ, List.set_cons_zero, List.set_cons_succ, decide_eq_true_eq, wF_len, wF_lent, wF_lens, wF_lst, wF_tup, wF_sum, wF_min, wF_max, wF_inti, wF_intb, wF_str, wM_app, wM_popA, wM_join, wM_split, rcv_app, rcv_popA, rcv_join, rcv_split, wR_1, wR_2, wZ_3, wZ_2, walk_tup, walk_fl, wU_fl, wT_strs, at0, at1, at2, at3, at4, atL, items_tup, items_fl, true_and, Option.isSome_some, List.length_set, ixn_4_0, ixn_4_1, ixn_4_2, ixn_4_3, List.length_cons, List.length_nil, Nat.zero_add, Nat.reduceAdd, Nat.reduceLT, Nat.reduceLeDiff, ne_eq, Nat.reduceEqDiff, Int.reducePow, Int.reduceToNat, Int.reduceEq, Int.reduceLT, Int.reduceLE, Int.reduceNeg, not_false_eq_true, reduceIte, Bool.false_eq_true, List.map_cons, List.map_nil, List.eraseIdx_cons_zero, not_true_eq_false, Bool.not_true, Bool.not_false, List.length_append, List.append_assoc, List.cons_append, List.nil_append, List.append_nil, items_W, items_W0, items_c0, items_c1, items_c2, items_c3, items_c4, lst_W, lst_W0, lst_c0, lst_c1, lst_c2, lst_c3, set_W, wB_addl, Nat.add_assoc, items_cs, items_last, wI_strW, wC_in, wC_notin, opIn_sign, walk_str, wF_intS, wT_tt, wT_tl, wT_it, wT_il, wT_is, wT_ii, wT_ib, wF_all, isNon_non, isNon_int, isNon_ref, isNon_tup, isNon_str, items_V, lst_V, set_V, bls_repW, all_repW, lst_last, set_last, walk_c0, strs_mapD, wp_quiet, bind3, bind2, bindU2, bindU3, atLm, map_snoc_int, ints_mapD, items_ss, set_W0, Option.map_some, Nat.add_zero, g1, g2, g3]
    have := ts2 hm.1
    have := ts2 hm.2.1
    have := ts2 hm.2.2
    refine ⟨by rw [colon_len]; omega, by simp only [Str.length_append, colon_len]; omega, by simp only [Str.length_append, colon_len]; omega, by simp only [Str.length_append, colon_len]; omega, ?_, _, _, _, rfl, ?_⟩
    · simp only [List.length_map, List.length_take]
      omega
    · rw [take_snoc hp, List.map_append, List.map_append]
      rfl
  · rintro σ S' ⟨y2, y3, y4, rfl, rfl⟩
    rw [List.length_map, List.take_length]
    simp only [wE_var, wE_cst, wE_glb, wE_bin, wE_neg, wE_cmp, wE_chn, wE_band, wE_bor, wE_not, wE_ite, wE_tup, wE_lst, wE_ix, wE_slc, wE_call, wE_blt, wE_isi, wE_mth, wE_one, wE_comp, wE_fst, wL_nil, wL_cons, wO_none, wO_some, wC_none, wC_some, wF_nil, wF_cons, wI_seq, wI_rng, wI_zip, wI_enm, wB_add, wB_adds, wB_addt, wB_sub, wB_mul, wB_fdv, wB_mod, wB_pow, wC_lt, wC_le, wC_gt, wC_ge, wC_eq, wC_ne, wC_is, wC_isnot, eqD_int, eqD_str, eqD_bl, wI_ref, wI_tup, wS_exp, wS_nam, wS_sub, wS_tup, wS_par, wS_ret0, wS_ret, wS_ite, wS_for, wS_whl, wS_pass, wS_dead, wT_nil, wT_cons, onB_bl, onV_some, onO_some, onI_int, onZ_bl, List.getElem?_cons_zero, List.getElem?_cons_succ, List.set_cons_zero, List.set_cons_succ, decide_eq_true_eq, wF_len, wF_lent, wF_lens, wF_lst, wF_tup, wF_sum, wF_min, wF_max, wF_inti, wF_intb, wF_str, wM_app, wM_popA, wM_join, wM_split, rcv_app, rcv_popA, rcv_join, rcv_split, wR_1, wR_2, wZ_3, wZ_2, walk_tup, walk_fl, wU_fl, wT_strs, at0, at1, at2, at3, at4, atL, items_tup, items_fl, true_and, Option.isSome_some, List.length_set, ixn_4_0, ixn_4_1, ixn_4_2, ixn_4_3, List.length_cons, List.length_nil, Nat.zero_add, Nat.reduceAdd, Nat.reduceLT, Nat.reduceLeDiff, ne_eq, Nat.reduceEqDiff, Int.reducePow, Int.reduceToNat, Int.reduceEq, Int.reduceLT, Int.reduceLE, Int.reduceNeg, not_false_eq_true, reduceIte, Bool.false_eq_true, List.map_cons, List.map_nil, List.eraseIdx_cons_zero, not_true_eq_false, Bool.not_true, Bool.not_false, List.length_append, List.append_assoc, List.cons_append, List.nil_append, List.append_nil, items_W, items_W0, items_c0, items_c1, items_c2, items_c3, items_c4, lst_W, lst_W0, lst_c0, lst_c1, lst_c2, lst_c3, set_W, wB_addl, Nat.add_assoc, items_cs, items_last, wI_strW, wC_in, wC_notin, opIn_sign, walk_str, wF_intS, wT_tt, wT_tl, wT_it, wT_il, wT_is, wT_ii, wT_ib, wF_all, isNon_non, isNon_int, isNon_ref, isNon_tup, isNon_str, items_V, lst_V, set_V, bls_repW, all_repW, lst_last, set_last, walk_c0, strs_mapD, wp_quiet, bind3, bind2, bindU2, bindU3, atLm, map_snoc_int, ints_mapD, items_ss, set_W0, Option.map_some, Nat.add_zero]
    refine ⟨?_, q _⟩
    have e := sum_len (ys := (a.zip (b.zip c)).map line) (fun y hy => by
      obtain ⟨p, hp, rfl⟩ := List.mem_map.1 hy
      have := line_len (hs p hp)
      omega)
    have e2 : ((" " : Str)).length = 1 := by decide
    rw [e2]
    rw [List.length_map] at e ⊢
    omega
theorem lgB {i : Int} {k : Nat} (h : i.natAbs < 2 ^ k) (hk : k ≤ 1920) (h1 : 0 < k) : i.natAbs.log2 < 1920 := by
  by_cases h0 : i.natAbs = 0
  · rw [h0]; decide
  · have := (Nat.log2_lt h0).2 h
    omega
theorem deed_text_w (L3 : Tb.lookup ("deed_text" : Str) = some d_deed_text) {n : Nat} {x : Str} {i : Int} {S : Sto} (hx : x.length ≤ 1000) (hi : i.natAbs ≤ 10 ^ 60) {Q : D → Sto → Prop} {X : XR}
    (q : Q (.str (x ++ (" " : Str) ++ (toString i : Str))) S) : (callN Tb gl (n + 1) ("deed_text" : Str) [.tup [.str x, .int i]] S).wp Q X := by
  rw [callW (σ := [some (.tup [.str x, .int i]), none, none]) L3 rfl rfl]
  have hsl : sizeLine = 16777216 := rfl
  have f1 : fmt (.str x) = some x := fmt_strW (by omega)
  have f2 : fmt (.str (" " : Str)) = some (" " : Str) := fmt_strW (by decide)
  have f3 := fmt_int (lgB (i := i) (k := 200) (Nat.lt_of_le_of_lt hi (by decide)) (by decide) (by decide))
  have f4 := ts_len (i := i) (k := 61) (by decide) (Nat.lt_of_le_of_lt hi (by decide))
  have e2 : ((" " : Str)).length = 1 := by decide
  simp only [d_deed_text, wE_var, wE_cst, wE_glb, wE_bin, wE_neg, wE_cmp, wE_chn, wE_band, wE_bor, wE_not, wE_ite, wE_tup, wE_lst, wE_ix, wE_slc, wE_call, wE_blt, wE_isi, wE_mth, wE_one, wE_comp, wE_fst, wL_nil, wL_cons, wO_none, wO_some, wC_none, wC_some, wF_nil, wF_cons, wI_seq, wI_rng, wI_zip, wI_enm, wB_add, wB_adds, wB_addt, wB_sub, wB_mul, wB_fdv, wB_mod, wB_pow, wC_lt, wC_le, wC_gt, wC_ge, wC_eq, wC_ne, wC_is, wC_isnot, eqD_int, eqD_str, eqD_bl, wI_ref, wI_tup, wS_exp, wS_nam, wS_sub, wS_tup, wS_par, wS_ret0, wS_ret, wS_ite, wS_for, wS_whl, wS_pass, wS_dead, wT_nil, wT_cons, onB_bl, onV_some, onO_some, onI_int, onZ_bl, List.getElem?_cons_zero, List.getElem?_cons_succ, List.set_cons_zero, List.set_cons_succ, decide_eq_true_eq, wF_len, wF_lent, wF_lens, wF_lst, wF_tup, wF_sum, wF_min, wF_max, wF_inti, wF_intb, wF_str, wM_app, wM_popA, wM_join, wM_split, rcv_app, rcv_popA, rcv_join, rcv_split, wR_1, wR_2, wZ_3, wZ_2, walk_tup, walk_fl, wU_fl, wT_strs, at0, at1, at2, at3, at4, atL, items_tup, items_fl, true_and, Option.isSome_some, List.length_set, ixn_4_0, ixn_4_1, ixn_4_2, ixn_4_3, List.length_cons, List.length_nil, Nat.zero_add, Nat.reduceAdd, Nat.reduceLT, Nat.reduceLeDiff, ne_eq, Nat.reduceEqDiff, Int.reducePow, Int.reduceToNat, Int.reduceEq, Int.reduceLT, Int.reduceLE, Int.reduceNeg, not_false_eq_true, reduceIte, Bool.false_eq_true, List.map_cons, List.map_nil, List.eraseIdx_cons_zero, not_true_eq_false, Bool.not_true, Bool.not_false, List.length_append, List.append_assoc, List.cons_append, List.nil_append, List.append_nil, items_W, items_W0, items_c0, items_c1, items_c2, items_c3, items_c4, lst_W, lst_W0, lst_c0, lst_c1, lst_c2, lst_c3, set_W, wB_addl, Nat.add_assoc, items_cs, items_last, wI_strW, wC_in, wC_notin, opIn_sign, walk_str, wF_intS, wT_tt, wT_tl, wT_it, wT_il, wT_is, wT_ii, wT_ib, wF_all, isNon_non, isNon_int, isNon_ref, isNon_tup, isNon_str, items_V, lst_V, set_V, bls_repW, all_repW, lst_last, set_last, walk_c0, strs_mapD, wp_quiet, bind3, bind2, bindU2, bindU3, atLm, map_snoc_int, ints_mapD, items_ss, set_W0, Option.map_some, Nat.add_zero, f1, f2, f3, Str.empty_append]
  exact ⟨by omega, by simp only [Str.length_append, e2]; omega, by simp only [Str.length_append, e2]; omega, q⟩
end
end Swl

set_option Elab.async false
set_option linter.all false
set_option maxRecDepth 100000
set_option maxHeartbeats 1000000
namespace K81
open PySem PySem.Spec PyProof.Rows L2 Sw
def d_stand_text : Df := ⟨["stand"], ["stand", "level", "right", "left"],
    (.cons (.ret (.some (.mth .join (.cst (.str " ")) (.cons (.comp [("level", 1), ("right", 2), ("left", 3)] (.zip (.cons (.ix (.var 0 "stand") (.cst (.int 0))) (.cons (.ix (.var 0 "stand") (.cst (.int 1))) (.cons (.ix (.var 0 "stand") (.cst (.int 2))) .nil)))) .none (.fst (.cons (.var 1 "level") (.cons (.cst (.str ":")) (.cons (.var 2 "right") (.cons (.cst (.str ":")) (.cons (.var 3 "left") .nil))))))) .nil))))
    .nil)⟩
def d_short_number : Df := ⟨["word"], ["word", "sign"],
    (.cons (.ite (.bor (.bnot (.chn .le .le (.cst (.int 1)) (.blt .len (.cons (.var 0 "word") .nil)) (.cst (.int 2)))) (.one (.band (.cmp .eq (.ix (.var 0 "word") (.cst (.int 0))) (.cst (.str "0"))) (.one (.cmp .gt (.blt .len (.cons (.var 0 "word") .nil)) (.cst (.int 1))))))) (.cons (.ret (.some (.cst (.non))))
    .nil) .nil)
    (.cons (.fr [("sign", 1)] (.seq (.var 0 "word")) (.cons (.ite (.cmp .notin (.var 1 "sign") (.glb "FIGURES")) (.cons (.ret (.some (.cst (.non))))
    .nil) .nil)
    .nil))
    (.cons (.ret (.some (.blt .int (.cons (.var 0 "word") .nil))))
    .nil)))⟩
def d_three_numbers : Df := ⟨["word"], ["word", "numbers", "part"],
    (.cons (.asg (.nam 1 "numbers") (.comp [("part", 2)] (.seq (.mth .split (.var 0 "word") (.cons (.cst (.str ":")) .nil))) .none (.call "short_number" (.cons (.var 2 "part") .nil))))
    (.cons (.ite (.bor (.cmp .ne (.blt .len (.cons (.var 1 "numbers") .nil)) (.cst (.int 3))) (.one (.cmp .isin (.cst (.non)) (.var 1 "numbers")))) (.cons (.ret (.some (.cst (.non))))
    .nil) .nil)
    (.cons (.ret (.some (.var 1 "numbers")))
    .nil)))⟩
def d_can_stand : Df := ⟨["place", "numbers"], ["place", "numbers", "level", "right", "left"],
    (.cons (.asg (.tup [("level", 2), ("right", 3), ("left", 4)]) (.var 1 "numbers"))
    (.cons (.ite (.cmp .eq (.ix (.var 0 "place") (.cst (.int 0))) (.cst (.str "end"))) (.cons (.ret (.some (.cmp .eq (.var 2 "level") (.cst (.int 0)))))
    .nil) .nil)
    (.cons (.ite (.cmp .eq (.ix (.var 0 "place") (.cst (.int 0))) (.cst (.str "chamber"))) (.cons (.ret (.some (.band (.cmp .le (.var 2 "level") (.cst (.int 1))) (.one (.cmp .le (.bin .add (.var 3 "right") (.var 4 "left")) (.cst (.int 1)))))))
    .nil) .nil)
    (.cons (.ret (.some (.band (.cmp .le (.var 2 "level") (.ix (.var 0 "place") (.cst (.int 1)))) (.one (.cmp .le (.bin .add (.var 3 "right") (.var 4 "left")) (.ix (.var 0 "place") (.cst (.int 3))))))))
    .nil))))⟩
def d_read_stand : Df := ⟨["canal", "text"], ["canal", "text", "levels", "rights", "lefts", "barges", "at", "word", "numbers"],
    (.cons (.asg (.nam 2 "levels") (.lst .nil))
    (.cons (.asg (.nam 3 "rights") (.lst .nil))
    (.cons (.asg (.nam 4 "lefts") (.lst .nil))
    (.cons (.asg (.nam 5 "barges") (.cst (.int 0)))
    (.cons (.fr [("at", 6), ("word", 7)] (.enm (.cons (.mth .split (.var 1 "text") (.cons (.cst (.str " ")) .nil)) .nil)) (.cons (.asg (.nam 8 "numbers") (.call "three_numbers" (.cons (.var 7 "word") .nil)))
    (.cons (.ite (.bor (.cmp .eq (.var 6 "at") (.blt .len (.cons (.ix (.var 0 "canal") (.cst (.int 0))) .nil))) (.bor (.cmp .is (.var 8 "numbers") (.cst (.non))) (.one (.bnot (.call "can_stand" (.cons (.ix (.ix (.var 0 "canal") (.cst (.int 0))) (.var 6 "at")) (.cons (.var 8 "numbers") .nil))))))) (.cons .dead
    .nil) .nil)
    (.cons (.asg (.nam 5 "barges") (.bin .add (.bin .add (.var 5 "barges") (.ix (.var 8 "numbers") (.cst (.int 1)))) (.ix (.var 8 "numbers") (.cst (.int 2)))))
    (.cons (.ite (.cmp .gt (.var 5 "barges") (.glb "MOST_BARGES")) (.cons .dead
    .nil) .nil)
    (.cons (.exp (.mth .append (.var 2 "levels") (.cons (.ix (.var 8 "numbers") (.cst (.int 0))) .nil)))
    (.cons (.exp (.mth .append (.var 3 "rights") (.cons (.ix (.var 8 "numbers") (.cst (.int 1))) .nil)))
    (.cons (.exp (.mth .append (.var 4 "lefts") (.cons (.ix (.var 8 "numbers") (.cst (.int 2))) .nil)))
    .nil))))))))
    (.cons (.ite (.cmp .lt (.blt .len (.cons (.var 2 "levels") .nil)) (.blt .len (.cons (.ix (.var 0 "canal") (.cst (.int 0))) .nil))) (.cons .dead
    .nil) .nil)
    (.cons (.ret (.some (.tup (.cons (.blt .tuple (.cons (.var 2 "levels") .nil)) (.cons (.blt .tuple (.cons (.var 3 "rights") .nil)) (.cons (.blt .tuple (.cons (.var 4 "lefts") .nil)) .nil))))))
    .nil)))))))⟩
def d__law_mixed : Df := ⟨["cell", "turn"], ["cell", "turn", "stir"],
    (.cons (.asg (.nam 2 "stir") (.bin .mod (.bin .mul (.bin .add (.bin .add (.bin .mod (.var 0 "cell") (.cst (.int 1000000007))) (.bin .mul (.cst (.int 40692)) (.var 1 "turn"))) (.cst (.int 1))) (.cst (.int 48271))) (.cst (.int 2147483647))))
    (.cons (.asg (.nam 2 "stir") (.bin .mod (.bin .mul (.var 2 "stir") (.var 2 "stir")) (.cst (.int 998244353))))
    (.cons (.ret (.some (.bin .fdiv (.bin .mod (.bin .add (.bin .mul (.var 2 "stir") (.cst (.int 69621))) (.bin .mul (.cst (.int 7919)) (.var 1 "turn"))) (.cst (.int 1000000007))) (.cst (.int 7)))))
    .nil)))⟩
def d__law_tape : Df := ⟨["script"], ["script", "seed", "cell"],
    (.cons (.asg (.nam 1 "seed") (.cst (.int 0)))
    (.cons (.fr [("cell", 2)] (.seq (.slc (.var 0 "script") .none (.some (.cst (.int 63))))) (.cons (.asg (.nam 1 "seed") (.bin .mod (.bin .add (.bin .mul (.var 1 "seed") (.cst (.int 69621))) (.var 2 "cell")) (.cst (.int 2147483647))))
    .nil))
    (.cons (.ret (.some (.lst (.cons (.blt .list (.cons (.slc (.var 0 "script") .none (.some (.cst (.int 63)))) .nil)) (.cons (.cst (.int 0)) (.cons (.var 1 "seed") (.cons (.cst (.int 0)) .nil)))))))
    .nil)))⟩
def d__law_take : Df := ⟨["tape", "many"], ["tape", "many", "cell", "found"],
    (.cons (.asg (.sub (.var 0 "tape") (.cst (.int 3))) (.bin .add (.ix (.var 0 "tape") (.cst (.int 3))) (.cst (.int 1))))
    (.cons (.ite (.band (.cmp .eq (.ix (.var 0 "tape") (.cst (.int 1))) (.cst (.int 0))) (.one (.cmp .gt (.blt .len (.cons (.ix (.var 0 "tape") (.cst (.int 0))) .nil)) (.cst (.int 0))))) (.cons (.asg (.nam 2 "cell") (.mth .popA (.ix (.var 0 "tape") (.cst (.int 0))) (.cons (.cst (.int 0)) .nil)))
    (.cons (.ite (.cmp .lt (.var 2 "cell") (.bin .pow (.cst (.int 10)) (.cst (.int 18)))) (.cons (.ret (.some (.bin .mod (.call "_law_mixed" (.cons (.var 2 "cell") (.cons (.ix (.var 0 "tape") (.cst (.int 3))) .nil))) (.var 1 "many"))))
    .nil) .nil)
    (.cons (.asg (.sub (.var 0 "tape") (.cst (.int 1))) (.var 2 "cell"))
    .nil))) .nil)
    (.cons (.ite (.cmp .gt (.ix (.var 0 "tape") (.cst (.int 1))) (.cst (.int 0))) (.cons (.asg (.nam 3 "found") (.bin .mod (.ix (.var 0 "tape") (.cst (.int 1))) (.var 1 "many")))
    (.cons (.asg (.sub (.var 0 "tape") (.cst (.int 1))) (.bin .fdiv (.ix (.var 0 "tape") (.cst (.int 1))) (.var 1 "many")))
    (.cons (.ret (.some (.var 3 "found")))
    .nil))) .nil)
    (.cons (.ret (.some (.bin .mod (.call "_law_mixed" (.cons (.ix (.var 0 "tape") (.cst (.int 2))) (.cons (.ix (.var 0 "tape") (.cst (.int 3))) .nil))) (.var 1 "many"))))
    .nil))))⟩
def d__law_places : Df := ⟨["tape", "many"], ["tape", "many", "places", "at", "brim", "deep", "room", "price"],
    (.cons (.asg (.nam 2 "places") (.lst (.cons (.tup (.cons (.cst (.str "end")) .nil)) .nil)))
    (.cons (.fr [("at", 3)] (.rng (.cons (.var 1 "many") .nil)) (.cons (.ite (.band (.cmp .eq (.ix (.var 2 "places") (.neg (.cst (.int 1)))) (.tup (.cons (.cst (.str "chamber")) .nil))) (.band (.cmp .lt (.var 3 "at") (.bin .sub (.var 1 "many") (.cst (.int 1)))) (.one (.cmp .gt (.call "_law_take" (.cons (.var 0 "tape") (.cons (.cst (.int 3)) .nil))) (.cst (.int 0)))))) (.cons (.asg (.nam 4 "brim") (.bin .add (.cst (.int 1)) (.call "_law_take" (.cons (.var 0 "tape") (.cons (.cst (.int 9)) .nil)))))
    (.cons (.asg (.nam 5 "deep") (.call "_law_take" (.cons (.var 0 "tape") (.cons (.bin .add (.var 4 "brim") (.cst (.int 1))) .nil))))
    (.cons (.asg (.nam 6 "room") (.bin .add (.cst (.int 1)) (.call "_law_take" (.cons (.var 0 "tape") (.cons (.cst (.int 4)) .nil)))))
    (.cons (.asg (.nam 7 "price") (.call "_law_take" (.cons (.var 0 "tape") (.cons (.cst (.int 134)) .nil))))
    (.cons (.exp (.mth .append (.var 2 "places") (.cons (.tup (.cons (.cst (.str "pound")) (.cons (.var 4 "brim") (.cons (.var 5 "deep") (.cons (.var 6 "room") (.cons (.ite (.cmp .lt (.var 7 "price") (.cst (.int 100))) (.var 7 "price") (.cst (.non))) .nil)))))) .nil)))
    .nil))))) (.cons (.exp (.mth .append (.var 2 "places") (.cons (.tup (.cons (.cst (.str "chamber")) .nil)) .nil)))
    .nil))
    .nil))
    (.cons (.ret (.some (.blt .tuple (.cons (.bin .add (.var 2 "places") (.lst (.cons (.tup (.cons (.cst (.str "end")) .nil)) .nil))) .nil))))
    .nil)))⟩
def d__law_canal : Df := ⟨["tape"], ["tape", "many", "places", "top", "hill", "gates", "gate", "up"],
    (.cons (.asg (.nam 1 "many") (.bin .add (.cst (.int 1)) (.call "_law_take" (.cons (.var 0 "tape") (.cons (.ix (.lst (.cons (.cst (.int 1)) (.cons (.cst (.int 4)) (.cons (.cst (.int 11)) .nil)))) (.call "_law_take" (.cons (.var 0 "tape") (.cons (.cst (.int 3)) .nil)))) .nil)))))
    (.cons (.asg (.nam 2 "places") (.call "_law_places" (.cons (.var 0 "tape") (.cons (.var 1 "many") .nil))))
    (.cons (.asg (.nam 3 "top") (.call "_law_take" (.cons (.var 0 "tape") (.cons (.bin .add (.var 1 "many") (.cst (.int 2))) .nil))))
    (.cons (.asg (.nam 4 "hill") (.call "_law_take" (.cons (.var 0 "tape") (.cons (.cst (.int 2)) .nil))))
    (.cons (.asg (.nam 5 "gates") (.lst .nil))
    (.cons (.fr [("gate", 6)] (.rng (.cons (.bin .add (.var 1 "many") (.cst (.int 1))) .nil)) (.cons (.asg (.nam 7 "up") (.cmp .lt (.var 6 "gate") (.var 3 "top")))
    (.cons (.ite (.cmp .eq (.var 4 "hill") (.cst (.int 0))) (.cons (.asg (.nam 7 "up") (.cmp .eq (.call "_law_take" (.cons (.var 0 "tape") (.cons (.cst (.int 2)) .nil))) (.cst (.int 1))))
    .nil) .nil)
    (.cons (.exp (.mth .append (.var 5 "gates") (.cons (.ite (.var 7 "up") (.cst (.str "up")) (.cst (.str "down"))) .nil)))
    .nil))))
    (.cons (.ret (.some (.tup (.cons (.var 2 "places") (.cons (.blt .tuple (.cons (.var 5 "gates") .nil)) .nil)))))
    .nil)))))))⟩
def d__law_stand : Df := ⟨["tape", "canal"], ["tape", "canal", "levels", "rows", "place", "rest", "k", "top", "room", "many", "at"],
    (.cons (.asg (.nam 2 "levels") (.lst .nil))
    (.cons (.asg (.nam 3 "rows") (.lst (.cons (.lst .nil) (.cons (.lst .nil) .nil))))
    (.cons (.fr [("place", 4)] (.seq (.ix (.var 1 "canal") (.cst (.int 0)))) (.cons (.asg (.nam 7 "top") (.blt .int (.cons (.cmp .eq (.ix (.var 4 "place") (.cst (.int 0))) (.cst (.str "chamber"))) .nil)))
    (.cons (.asg (.nam 8 "room") (.blt .int (.cons (.cmp .eq (.ix (.var 4 "place") (.cst (.int 0))) (.cst (.str "chamber"))) .nil)))
    (.cons (.ite (.cmp .eq (.ix (.var 4 "place") (.cst (.int 0))) (.cst (.str "pound"))) (.cons (.asg (.nam 7 "top") (.ix (.var 4 "place") (.cst (.int 1))))
    (.cons (.asg (.nam 8 "room") (.ix (.var 4 "place") (.cst (.int 3))))
    .nil)) .nil)
    (.cons (.exp (.mth .append (.var 2 "levels") (.cons (.call "_law_take" (.cons (.var 0 "tape") (.cons (.bin .add (.var 7 "top") (.cst (.int 1))) .nil))) .nil)))
    (.cons (.asg (.nam 9 "many") (.call "_law_take" (.cons (.var 0 "tape") (.cons (.bin .add (.var 8 "room") (.cst (.int 1))) .nil))))
    (.cons (.exp (.mth .append (.ix (.var 3 "rows") (.cst (.int 0))) (.cons (.call "_law_take" (.cons (.var 0 "tape") (.cons (.bin .add (.var 9 "many") (.cst (.int 1))) .nil))) .nil)))
    (.cons (.exp (.mth .append (.ix (.var 3 "rows") (.cst (.int 1))) (.cons (.bin .sub (.var 9 "many") (.ix (.ix (.var 3 "rows") (.cst (.int 0))) (.neg (.cst (.int 1))))) .nil)))
    .nil))))))))
    (.cons (.asg (.nam 5 "rest") (.bin .sub (.bin .sub (.cst (.int 60)) (.blt .sum (.cons (.ix (.var 3 "rows") (.cst (.int 0))) .nil))) (.blt .sum (.cons (.ix (.var 3 "rows") (.cst (.int 1))) .nil))))
    (.cons (.fr [("k", 6)] (.rng (.cons (.cst (.int 4)) .nil)) (.cons (.asg (.nam 10 "at") (.bin .mul (.bin .mod (.var 6 "k") (.cst (.int 2))) (.bin .sub (.blt .len (.cons (.var 2 "levels") .nil)) (.cst (.int 1)))))
    (.cons (.asg (.sub (.ix (.var 3 "rows") (.bin .fdiv (.var 6 "k") (.cst (.int 2)))) (.var 10 "at")) (.call "_law_take" (.cons (.var 0 "tape") (.cons (.bin .add (.blt .min (.cons (.var 5 "rest") (.cons (.ix (.lst (.cons (.cst (.int 2)) (.cons (.cst (.int 60)) .nil))) (.call "_law_take" (.cons (.var 0 "tape") (.cons (.cst (.int 2)) .nil)))) .nil))) (.cst (.int 1))) .nil))))
    (.cons (.asg (.nam 5 "rest") (.bin .sub (.var 5 "rest") (.ix (.ix (.var 3 "rows") (.bin .fdiv (.var 6 "k") (.cst (.int 2)))) (.var 10 "at"))))
    .nil))))
    (.cons (.ret (.some (.tup (.cons (.blt .tuple (.cons (.var 2 "levels") .nil)) (.cons (.blt .tuple (.cons (.ix (.var 3 "rows") (.cst (.int 0))) .nil)) (.cons (.blt .tuple (.cons (.ix (.var 3 "rows") (.cst (.int 1))) .nil)) .nil))))))
    .nil))))))⟩
def d__law_stand_text : Df := ⟨["stand"], ["stand", "parts", "level", "right", "left"],
    (.cons (.asg (.nam 1 "parts") (.lst .nil))
    (.cons (.fr [("level", 2), ("right", 3), ("left", 4)] (.zip (.cons (.ix (.var 0 "stand") (.cst (.int 0))) (.cons (.ix (.var 0 "stand") (.cst (.int 1))) (.cons (.ix (.var 0 "stand") (.cst (.int 2))) .nil)))) (.cons (.exp (.mth .append (.var 1 "parts") (.cons (.bin .add (.bin .add (.bin .add (.bin .add (.blt .str (.cons (.var 2 "level") .nil)) (.cst (.str ":"))) (.blt .str (.cons (.var 3 "right") .nil))) (.cst (.str ":"))) (.blt .str (.cons (.var 4 "left") .nil))) .nil)))
    .nil))
    (.cons (.ret (.some (.mth .join (.cst (.str " ")) (.cons (.var 1 "parts") .nil))))
    .nil)))⟩
def d__law_number : Df := ⟨["found"], ["found"],
    (.cons (.ret (.some (.band (.isi (.var 0 "found") "int") (.one (.bnot (.isi (.var 0 "found") "bool"))))))
    .nil)⟩
def d__law_same : Df := ⟨["found", "due"], ["found", "due", "one", "other"],
    (.cons (.ite (.bor (.isi (.var 1 "due") "tuple") (.one (.isi (.var 1 "due") "list"))) (.cons (.ite (.bor (.cmp .ne (.isi (.var 0 "found") "tuple") (.isi (.var 1 "due") "tuple")) (.one (.cmp .ne (.isi (.var 0 "found") "list") (.isi (.var 1 "due") "list")))) (.cons (.ret (.some (.cst (.bl false))))
    .nil) .nil)
    (.cons (.ite (.cmp .ne (.blt .len (.cons (.var 0 "found") .nil)) (.blt .len (.cons (.var 1 "due") .nil))) (.cons (.ret (.some (.cst (.bl false))))
    .nil) .nil)
    (.cons (.ret (.some (.blt .all (.cons (.comp [("one", 2), ("other", 3)] (.zip (.cons (.var 0 "found") (.cons (.var 1 "due") .nil))) .none (.call "_law_same" (.cons (.var 2 "one") (.cons (.var 3 "other") .nil)))) .nil))))
    .nil))) .nil)
    (.cons (.ite (.cmp .is (.var 1 "due") (.cst (.non))) (.cons (.ret (.some (.cmp .is (.var 0 "found") (.cst (.non)))))
    .nil) .nil)
    (.cons (.ite (.isi (.var 1 "due") "str") (.cons (.ret (.some (.band (.isi (.var 0 "found") "str") (.one (.cmp .eq (.var 0 "found") (.var 1 "due"))))))
    .nil) .nil)
    (.cons (.ret (.some (.band (.call "_law_number" (.cons (.var 0 "found") .nil)) (.one (.cmp .eq (.var 0 "found") (.var 1 "due"))))))
    .nil))))⟩
def d_law : Df := ⟨["script"], ["script", "tape", "canal", "stand"],
    (.cons (.asg (.nam 1 "tape") (.call "_law_tape" (.cons (.var 0 "script") .nil)))
    (.cons (.asg (.nam 2 "canal") (.call "_law_canal" (.cons (.var 1 "tape") .nil)))
    (.cons (.asg (.nam 3 "stand") (.call "_law_stand" (.cons (.var 1 "tape") (.cons (.var 2 "canal") .nil))))
    (.cons (.ite (.bnot (.call "_law_same" (.cons (.call "read_stand" (.cons (.var 2 "canal") (.cons (.call "_law_stand_text" (.cons (.var 3 "stand") .nil)) .nil))) (.cons (.var 3 "stand") .nil)))) (.cons (.ret (.some (.cst (.bl false))))
    .nil) .nil)
    (.cons (.ret (.some (.call "_law_same" (.cons (.call "read_stand" (.cons (.var 2 "canal") (.cons (.call "stand_text" (.cons (.var 3 "stand") .nil)) .nil))) (.cons (.var 3 "stand") .nil)))))
    .nil)))))⟩
def Tb : Tab := [("stand_text", d_stand_text), ("short_number", d_short_number), ("three_numbers", d_three_numbers), ("can_stand", d_can_stand), ("read_stand", d_read_stand), ("_law_mixed", d__law_mixed), ("_law_tape", d__law_tape), ("_law_take", d__law_take), ("_law_places", d__law_places), ("_law_canal", d__law_canal), ("_law_stand", d__law_stand), ("_law_stand_text", d__law_stand_text), ("_law_number", d__law_number), ("_law_same", d__law_same), ("law", d_law)]
def bls : List Str := ["all", "bool", "enumerate", "int", "isinstance", "len", "list", "min", "range", "str", "sum", "tuple", "zip"]
def Tn : Nm := ⟨fun f => (Tb.lookup f).map (·.ps), bls⟩
def gls : List (Str × D) := [("FIGURES", .str "0123456789"), ("MOST_BARGES", .int 60)]
def gl : GL := fun x => gls.lookup x
theorem gl_FIGURES : gl ("FIGURES" : Str) = some (.str "0123456789") := rfl
theorem gl_MOST_BARGES : gl ("MOST_BARGES" : Str) = some (.int 60) := rfl
theorem tb_stand_text : Tb.lookup ("stand_text" : Str) = some d_stand_text := rfl
theorem tb_short_number : Tb.lookup ("short_number" : Str) = some d_short_number := rfl
theorem tb_three_numbers : Tb.lookup ("three_numbers" : Str) = some d_three_numbers := rfl
theorem tb_can_stand : Tb.lookup ("can_stand" : Str) = some d_can_stand := rfl
theorem tb_read_stand : Tb.lookup ("read_stand" : Str) = some d_read_stand := rfl
theorem tb__law_mixed : Tb.lookup ("_law_mixed" : Str) = some d__law_mixed := rfl
theorem tb__law_tape : Tb.lookup ("_law_tape" : Str) = some d__law_tape := rfl
theorem tb__law_take : Tb.lookup ("_law_take" : Str) = some d__law_take := rfl
theorem tb__law_places : Tb.lookup ("_law_places" : Str) = some d__law_places := rfl
theorem tb__law_canal : Tb.lookup ("_law_canal" : Str) = some d__law_canal := rfl
theorem tb__law_stand : Tb.lookup ("_law_stand" : Str) = some d__law_stand := rfl
theorem tb__law_stand_text : Tb.lookup ("_law_stand_text" : Str) = some d__law_stand_text := rfl
theorem tb__law_number : Tb.lookup ("_law_number" : Str) = some d__law_number := rfl
theorem tb__law_same : Tb.lookup ("_law_same" : Str) = some d__law_same := rfl
theorem tb_law : Tb.lookup ("law" : Str) = some d_law := rfl
end K81

set_option Elab.async false
set_option linter.all false
set_option maxRecDepth 100000
set_option maxHeartbeats 1000000
namespace Swl
open PySem PySem.Spec PyProof.Rows L2 Sw K81
section
variable {Tb : Tab} {gl : GL}
/-- a number's word of one or two figures -/
structure Fg (z : Str) (i : Int) : Prop where
  l1 : 1 ≤ z.length
  l2 : z.length ≤ 2
  it : PySem.intText? z = some i
  fg : ∀ c ∈ z.cps.toList, c ∈ ("0123456789" : Str).cps.toList
  nz : z.length = 1 ∨ z.cps[0]? ≠ some 48
theorem fgs : ∀ k : Fin 100, (1 ≤ ((toString ((k.val : Nat) : Int) : Str)).length ∧ ((toString ((k.val : Nat) : Int) : Str)).length ≤ 2) ∧ PySem.intText? (toString ((k.val : Nat) : Int) : Str) = some ((k.val : Nat) : Int) ∧ (∀ c ∈ ((toString ((k.val : Nat) : Int) : Str)).cps.toList, c ∈ ("0123456789" : Str).cps.toList) ∧ (((toString ((k.val : Nat) : Int) : Str)).length = 1 ∨ ((toString ((k.val : Nat) : Int) : Str)).cps[0]? ≠ some 48) := by decide +kernel
theorem fg_of {i : Int} (h0 : 0 ≤ i) (h1 : i < 100) : Fg (toString i : Str) i := by
  obtain ⟨k, rfl⟩ : ∃ k : Nat, i = (k : Int) := ⟨i.toNat, by omega⟩
  have q := fgs ⟨k, by omega⟩
  exact ⟨q.1.1, q.1.2, q.2.1, q.2.2.1, q.2.2.2⟩
theorem short_number_w (L3 : Tb.lookup ("short_number" : Str) = some d_short_number) (G : gl ("FIGURES" : Str) = some (.str ("0123456789" : Str))) {n : Nat} {z : Str} {i : Int} {S : Sto} (h : Fg z i) {Q : D → Sto → Prop} {X : XR} (q : Q (.int i) S) :
    (callN Tb gl (n + 1) ("short_number" : Str) [.str z] S).wp Q X := by
  rw [callW (σ := [some (.str z), none]) L3 rfl rfl]
  have hsl : sizeLine = 16777216 := rfl
  have h1 := h.l1
  have h2 := h.l2
  have hsz : z.length = z.cps.size := rfl
  obtain ⟨c0, hc0⟩ : ∃ c0, z.cps[0]? = some c0 := ⟨z.cps[0]'(by omega), Array.getElem?_eq_getElem (by omega)⟩
  have hc1 : atI z.cps.toList 0 = some c0 := atI_nat (j := 0) (by rw [Array.getElem?_toList]; exact hc0)
  have loop : (forL (bdF (callN Tb gl n) gl [("sign", 1)] (SL.cons (Sw.S.ite (E.cmp Cop.notin (E.var 1 "sign") (E.glb "FIGURES")) (SL.cons (Sw.S.ret (EO.some (E.cst D.non))) SL.nil) SL.nil) SL.nil)) [] (List.map (fun c => D.str { cps := #[c] }) z.cps.toList) [some (D.str z), none] S).wp
      (fun σ S => onV σ[0]? fun d => (opF Bf.int [d] S).wp Q fun c fs S => X c fs S) Q fun c fs x S => X c fs S := by
    refine forW0 (fun i σ S' => ∃ y, σ = [some (.str z), y] ∧ S' = S) ⟨none, rfl, rfl⟩ ?_ ?_
    · rintro i d σ S' ⟨y, rfl, rfl⟩ hd
      rw [List.getElem?_map, Option.map_eq_some_iff] at hd
      obtain ⟨c, hc, rfl⟩ := hd
      have hm := h.fg c (List.mem_of_getElem? hc)
      simp only [bind1, wE_var, wE_cst, wE_glb, wE_bin, wE_neg, wE_cmp, wE_chn, wE_band, wE_bor, wE_not, wE_ite, wE_tup, wE_lst, wE_ix, wE_slc, wE_call, wE_blt, wE_isi, wE_mth, wE_one, wE_comp, wE_fst, wL_nil, wL_cons, wO_none, wO_some, wC_none, wC_some, wF_nil, wF_cons, wI_seq, wI_rng, wI_zip, wI_enm, wB_add, wB_adds, wB_addt, wB_sub, wB_mul, wB_fdv, wB_mod, wB_pow, wC_lt, wC_le, wC_gt, wC_ge, wC_eq, wC_ne, wC_is, wC_isnot, eqD_int, eqD_str, eqD_bl, wI_ref, wI_tup, wS_exp, wS_nam, wS_sub, wS_tup, wS_par, wS_ret0, wS_ret, wS_ite, wS_for, wS_whl, wS_pass, wS_dead, wT_nil, wT_cons, onB_bl, onV_some, onO_some, onI_int, onZ_bl, List.getElem?_cons_zero, List.getElem?_cons_succ, List.set_cons_zero, List.set_cons_succ, decide_eq_true_eq, wF_len, wF_lent, wF_lens, wF_lst, wF_tup, wF_sum, wF_min, wF_max, wF_inti, wF_intb, wF_str, wM_app, wM_popA, wM_join, wM_split, rcv_app, rcv_popA, rcv_join, rcv_split, wR_1, wR_2, wZ_3, wZ_2, walk_tup, walk_fl, wU_fl, wT_strs, at0, at1, at2, at3, at4, atL, items_tup, items_fl, true_and, Option.isSome_some, List.length_set, ixn_4_0, ixn_4_1, ixn_4_2, ixn_4_3, List.length_cons, List.length_nil, Nat.zero_add, Nat.reduceAdd, Nat.reduceLT, Nat.reduceLeDiff, ne_eq, Nat.reduceEqDiff, Int.reducePow, Int.reduceToNat, Int.reduceEq, Int.reduceLT, Int.reduceLE, Int.reduceNeg, not_false_eq_true, reduceIte, Bool.false_eq_true, List.map_cons, List.map_nil, List.eraseIdx_cons_zero, not_true_eq_false, Bool.not_true, Bool.not_false, List.length_append, List.append_assoc, List.cons_append, List.nil_append, List.append_nil, items_W, items_W0, items_c0, items_c1, items_c2, items_c3, items_c4, lst_W, lst_W0, lst_c0, lst_c1, lst_c2, lst_c3, set_W, wB_addl, Nat.add_assoc, items_cs, items_last, wI_strW, wC_in, wC_notin, opIn_sign, walk_str, wF_intS, wT_tt, wT_tl, wT_it, wT_il, wT_is, wT_ii, wT_ib, wF_all, isNon_non, isNon_int, isNon_ref, isNon_tup, isNon_str, items_V, lst_V, set_V, bls_repW, all_repW, lst_last, set_last, walk_c0, strs_mapD, wp_quiet, bind3, bind2, bindU2, bindU3, atLm, map_snoc_int, ints_mapD, items_ss, set_W0, Option.map_some, Nat.add_zero, G, hm, decide_true]
      exact ⟨_, rfl, trivial⟩
    · rintro σ S' ⟨y, rfl, rfl⟩
      simp only [wE_var, wE_cst, wE_glb, wE_bin, wE_neg, wE_cmp, wE_chn, wE_band, wE_bor, wE_not, wE_ite, wE_tup, wE_lst, wE_ix, wE_slc, wE_call, wE_blt, wE_isi, wE_mth, wE_one, wE_comp, wE_fst, wL_nil, wL_cons, wO_none, wO_some, wC_none, wC_some, wF_nil, wF_cons, wI_seq, wI_rng, wI_zip, wI_enm, wB_add, wB_adds, wB_addt, wB_sub, wB_mul, wB_fdv, wB_mod, wB_pow, wC_lt, wC_le, wC_gt, wC_ge, wC_eq, wC_ne, wC_is, wC_isnot, eqD_int, eqD_str, eqD_bl, wI_ref, wI_tup, wS_exp, wS_nam, wS_sub, wS_tup, wS_par, wS_ret0, wS_ret, wS_ite, wS_for, wS_whl, wS_pass, wS_dead, wT_nil, wT_cons, onB_bl, onV_some, onO_some, onI_int, onZ_bl, List.getElem?_cons_zero, List.getElem?_cons_succ, List.set_cons_zero, List.set_cons_succ, decide_eq_true_eq, wF_len, wF_lent, wF_lens, wF_lst, wF_tup, wF_sum, wF_min, wF_max, wF_inti, wF_intb, wF_str, wM_app, wM_popA, wM_join, wM_split, rcv_app, rcv_popA, rcv_join, rcv_split, wR_1, wR_2, wZ_3, wZ_2, walk_tup, walk_fl, wU_fl, wT_strs, at0, at1, at2, at3, at4, atL, items_tup, items_fl, true_and, Option.isSome_some, List.length_set, ixn_4_0, ixn_4_1, ixn_4_2, ixn_4_3, List.length_cons, List.length_nil, Nat.zero_add, Nat.reduceAdd, Nat.reduceLT, Nat.reduceLeDiff, ne_eq, Nat.reduceEqDiff, Int.reducePow, Int.reduceToNat, Int.reduceEq, Int.reduceLT, Int.reduceLE, Int.reduceNeg, not_false_eq_true, reduceIte, Bool.false_eq_true, List.map_cons, List.map_nil, List.eraseIdx_cons_zero, not_true_eq_false, Bool.not_true, Bool.not_false, List.length_append, List.append_assoc, List.cons_append, List.nil_append, List.append_nil, items_W, items_W0, items_c0, items_c1, items_c2, items_c3, items_c4, lst_W, lst_W0, lst_c0, lst_c1, lst_c2, lst_c3, set_W, wB_addl, Nat.add_assoc, items_cs, items_last, wI_strW, wC_in, wC_notin, opIn_sign, walk_str, wF_intS, wT_tt, wT_tl, wT_it, wT_il, wT_is, wT_ii, wT_ib, wF_all, isNon_non, isNon_int, isNon_ref, isNon_tup, isNon_str, items_V, lst_V, set_V, bls_repW, all_repW, lst_last, set_last, walk_c0, strs_mapD, wp_quiet, bind3, bind2, bindU2, bindU3, atLm, map_snoc_int, ints_mapD, items_ss, set_W0, Option.map_some, Nat.add_zero, h.it]
      exact ⟨by omega, q⟩
  simp only [d_short_number, wE_var, wE_cst, wE_glb, wE_bin, wE_neg, wE_cmp, wE_chn, wE_band, wE_bor, wE_not, wE_ite, wE_tup, wE_lst, wE_ix, wE_slc, wE_call, wE_blt, wE_isi, wE_mth, wE_one, wE_comp, wE_fst, wL_nil, wL_cons, wO_none, wO_some, wC_none, wC_some, wF_nil, wF_cons, wI_seq, wI_rng, wI_zip, wI_enm, wB_add, wB_adds, wB_addt, wB_sub, wB_mul, wB_fdv, wB_mod, wB_pow, wC_lt, wC_le, wC_gt, wC_ge, wC_eq, wC_ne, wC_is, wC_isnot, eqD_int, eqD_str, eqD_bl, wI_ref, wI_tup, wS_exp, wS_nam, wS_sub, wS_tup, wS_par, wS_ret0, wS_ret, wS_ite, wS_for, wS_whl, wS_pass, wS_dead, wT_nil, wT_cons, onB_bl, onV_some, onO_some, onI_int, onZ_bl, List.getElem?_cons_zero, List.getElem?_cons_succ, List.set_cons_zero, List.set_cons_succ, decide_eq_true_eq, wF_len, wF_lent, wF_lens, wF_lst, wF_tup, wF_sum, wF_min, wF_max, wF_inti, wF_intb, wF_str, wM_app, wM_popA, wM_join, wM_split, rcv_app, rcv_popA, rcv_join, rcv_split, wR_1, wR_2, wZ_3, wZ_2, walk_tup, walk_fl, wU_fl, wT_strs, at0, at1, at2, at3, at4, atL, items_tup, items_fl, true_and, Option.isSome_some, List.length_set, ixn_4_0, ixn_4_1, ixn_4_2, ixn_4_3, List.length_cons, List.length_nil, Nat.zero_add, Nat.reduceAdd, Nat.reduceLT, Nat.reduceLeDiff, ne_eq, Nat.reduceEqDiff, Int.reducePow, Int.reduceToNat, Int.reduceEq, Int.reduceLT, Int.reduceLE, Int.reduceNeg, not_false_eq_true, reduceIte, Bool.false_eq_true, List.map_cons, List.map_nil, List.eraseIdx_cons_zero, not_true_eq_false, Bool.not_true, Bool.not_false, List.length_append, List.append_assoc, List.cons_append, List.nil_append, List.append_nil, items_W, items_W0, items_c0, items_c1, items_c2, items_c3, items_c4, lst_W, lst_W0, lst_c0, lst_c1, lst_c2, lst_c3, set_W, wB_addl, Nat.add_assoc, items_cs, items_last, wI_strW, wC_in, wC_notin, opIn_sign, walk_str, wF_intS, wT_tt, wT_tl, wT_it, wT_il, wT_is, wT_ii, wT_ib, wF_all, isNon_non, isNon_int, isNon_ref, isNon_tup, isNon_str, items_V, lst_V, set_V, bls_repW, all_repW, lst_last, set_last, walk_c0, strs_mapD, wp_quiet, bind3, bind2, bindU2, bindU3, atLm, map_snoc_int, ints_mapD, items_ss, set_W0, Option.map_some, Nat.add_zero, G, h.it, hc1]
  refine ⟨by omega, ifI (fun _ => ifI (fun z0 => ?_) fun _ => ⟨by omega, ifI (fun e => ⟨by omega, ifI (fun z1 => ?_) fun _ => loop⟩) fun _ => loop⟩) fun z0 => by omega⟩
  · simp only [Bool.not_eq_true', decide_eq_false_iff_not] at z0
    omega
  · rcases h.nz with e1 | e1
    · omega
    · have e2 : c0 = 48 := by
        have e3 : ({ cps := #[c0] } : Str).cps = #[48] := by rw [e]; rfl
        simpa using e3
      rw [hc0, e2] at e1
      exact absurd rfl e1
/-- a place's three numbers -/
theorem three_numbers_w (L1 : Tb.lookup ("short_number" : Str) = some d_short_number) (L3 : Tb.lookup ("three_numbers" : Str) = some d_three_numbers) (G : gl ("FIGURES" : Str) = some (.str ("0123456789" : Str))) {n : Nat} {w x y z : Str} {i j k : Int} {S : Sto}
    (hx : Fg x i) (hy : Fg y j) (hz : Fg z k) (hw : Txt.split w (":" : Str) = [x, y, z]) (hwl : w.length ≤ 1000) {Q : D → Sto → Prop} {X : XR} (q : Q (.ref (S.length + 1)) (S ++ [.lst [.str x, .str y, .str z], .lst [.int i, .int j, .int k]])) :
    (callN Tb gl (n + 2) ("three_numbers" : Str) [.str w] S).wp Q X := by
  rw [callW (σ := [some (.str w), none, none]) L3 rfl rfl]
  have hsl : sizeLine = 16777216 := rfl
  simp only [d_three_numbers, wE_var, wE_cst, wE_glb, wE_bin, wE_neg, wE_cmp, wE_chn, wE_band, wE_bor, wE_not, wE_ite, wE_tup, wE_lst, wE_ix, wE_slc, wE_call, wE_blt, wE_isi, wE_mth, wE_one, wE_comp, wE_fst, wL_nil, wL_cons, wO_none, wO_some, wC_none, wC_some, wF_nil, wF_cons, wI_seq, wI_rng, wI_zip, wI_enm, wB_add, wB_adds, wB_addt, wB_sub, wB_mul, wB_fdv, wB_mod, wB_pow, wC_lt, wC_le, wC_gt, wC_ge, wC_eq, wC_ne, wC_is, wC_isnot, eqD_int, eqD_str, eqD_bl, wI_ref, wI_tup, wS_exp, wS_nam, wS_sub, wS_tup, wS_par, wS_ret0, wS_ret, wS_ite, wS_for, wS_whl, wS_pass, wS_dead, wT_nil, wT_cons, onB_bl, onV_some, onO_some, onI_int, onZ_bl, List.getElem?_cons_zero, List.getElem?_cons_succ, List.set_cons_zero, List.set_cons_succ, decide_eq_true_eq, wF_len, wF_lent, wF_lens, wF_lst, wF_tup, wF_sum, wF_min, wF_max, wF_inti, wF_intb, wF_str, wM_app, wM_popA, wM_join, wM_split, rcv_app, rcv_popA, rcv_join, rcv_split, wR_1, wR_2, wZ_3, wZ_2, walk_tup, walk_fl, wU_fl, wT_strs, at0, at1, at2, at3, at4, atL, items_tup, items_fl, true_and, Option.isSome_some, List.length_set, ixn_4_0, ixn_4_1, ixn_4_2, ixn_4_3, List.length_cons, List.length_nil, Nat.zero_add, Nat.reduceAdd, Nat.reduceLT, Nat.reduceLeDiff, ne_eq, Nat.reduceEqDiff, Int.reducePow, Int.reduceToNat, Int.reduceEq, Int.reduceLT, Int.reduceLE, Int.reduceNeg, not_false_eq_true, reduceIte, Bool.false_eq_true, List.map_cons, List.map_nil, List.eraseIdx_cons_zero, not_true_eq_false, Bool.not_true, Bool.not_false, List.length_append, List.append_assoc, List.cons_append, List.nil_append, List.append_nil, items_W, items_W0, items_c0, items_c1, items_c2, items_c3, items_c4, lst_W, lst_W0, lst_c0, lst_c1, lst_c2, lst_c3, set_W, wB_addl, Nat.add_assoc, items_cs, items_last, wI_strW, wC_in, wC_notin, opIn_sign, walk_str, wF_intS, wT_tt, wT_tl, wT_it, wT_il, wT_is, wT_ii, wT_ib, wF_all, isNon_non, isNon_int, isNon_ref, isNon_tup, isNon_str, items_V, lst_V, set_V, bls_repW, all_repW, lst_last, set_last, walk_c0, strs_mapD, wp_quiet, bind3, bind2, bindU2, bindU3, atLm, map_snoc_int, ints_mapD, items_ss, set_W0, Option.map_some, Nat.add_zero, hw]
  refine ⟨⟨by decide, by omega⟩, ?_⟩
  rw [walk_ref (n := S.length) (ds := [.str x, .str y, .str z]) (getU0 rfl)]
  simp only [onO_some]
  refine compW (fun i' acc S' => S' = S ++ [.lst [.str x, .str y, .str z]] ∧ acc = ([i, j, k].take i').map D.int) ⟨rfl, rfl⟩ (fun i' acc S' h => stab_one (by rw [h.1]; exact getU0 rfl)) ?_ ?_
  · rintro i' d acc S' ⟨rfl, rfl⟩ hd
    have hd2 : ([D.str x, .str y, .str z] : List D)[i']? = some d := hd
    rcases i' with _ | _ | _ | i'
    · cases hd2
      simp only [bind1, wE_var, wE_cst, wE_glb, wE_bin, wE_neg, wE_cmp, wE_chn, wE_band, wE_bor, wE_not, wE_ite, wE_tup, wE_lst, wE_ix, wE_slc, wE_call, wE_blt, wE_isi, wE_mth, wE_one, wE_comp, wE_fst, wL_nil, wL_cons, wO_none, wO_some, wC_none, wC_some, wF_nil, wF_cons, wI_seq, wI_rng, wI_zip, wI_enm, wB_add, wB_adds, wB_addt, wB_sub, wB_mul, wB_fdv, wB_mod, wB_pow, wC_lt, wC_le, wC_gt, wC_ge, wC_eq, wC_ne, wC_is, wC_isnot, eqD_int, eqD_str, eqD_bl, wI_ref, wI_tup, wS_exp, wS_nam, wS_sub, wS_tup, wS_par, wS_ret0, wS_ret, wS_ite, wS_for, wS_whl, wS_pass, wS_dead, wT_nil, wT_cons, onB_bl, onV_some, onO_some, onI_int, onZ_bl, List.getElem?_cons_zero, List.getElem?_cons_succ, List.set_cons_zero, List.set_cons_succ, decide_eq_true_eq, wF_len, wF_lent, wF_lens, wF_lst, wF_tup, wF_sum, wF_min, wF_max, wF_inti, wF_intb, wF_str, wM_app, wM_popA, wM_join, wM_split, rcv_app, rcv_popA, rcv_join, rcv_split, wR_1, wR_2, wZ_3, wZ_2, walk_tup, walk_fl, wU_fl, wT_strs, at0, at1, at2, at3, at4, atL, items_tup, items_fl, true_and, Option.isSome_some, List.length_set, ixn_4_0, ixn_4_1, ixn_4_2, ixn_4_3, List.length_cons, List.length_nil, Nat.zero_add, Nat.reduceAdd, Nat.reduceLT, Nat.reduceLeDiff, ne_eq, Nat.reduceEqDiff, Int.reducePow, Int.reduceToNat, Int.reduceEq, Int.reduceLT, Int.reduceLE, Int.reduceNeg, not_false_eq_true, reduceIte, Bool.false_eq_true, List.map_cons, List.map_nil, List.eraseIdx_cons_zero, not_true_eq_false, Bool.not_true, Bool.not_false, List.length_append, List.append_assoc, List.cons_append, List.nil_append, List.append_nil, items_W, items_W0, items_c0, items_c1, items_c2, items_c3, items_c4, lst_W, lst_W0, lst_c0, lst_c1, lst_c2, lst_c3, set_W, wB_addl, Nat.add_assoc, items_cs, items_last, wI_strW, wC_in, wC_notin, opIn_sign, walk_str, wF_intS, wT_tt, wT_tl, wT_it, wT_il, wT_is, wT_ii, wT_ib, wF_all, isNon_non, isNon_int, isNon_ref, isNon_tup, isNon_str, items_V, lst_V, set_V, bls_repW, all_repW, lst_last, set_last, walk_c0, strs_mapD, wp_quiet, bind3, bind2, bindU2, bindU3, atLm, map_snoc_int, ints_mapD, items_ss, set_W0, Option.map_some, Nat.add_zero]
      exact short_number_w L1 G hx ⟨by simp [hsl], rfl, rfl⟩
    · cases hd2
      simp only [bind1, wE_var, wE_cst, wE_glb, wE_bin, wE_neg, wE_cmp, wE_chn, wE_band, wE_bor, wE_not, wE_ite, wE_tup, wE_lst, wE_ix, wE_slc, wE_call, wE_blt, wE_isi, wE_mth, wE_one, wE_comp, wE_fst, wL_nil, wL_cons, wO_none, wO_some, wC_none, wC_some, wF_nil, wF_cons, wI_seq, wI_rng, wI_zip, wI_enm, wB_add, wB_adds, wB_addt, wB_sub, wB_mul, wB_fdv, wB_mod, wB_pow, wC_lt, wC_le, wC_gt, wC_ge, wC_eq, wC_ne, wC_is, wC_isnot, eqD_int, eqD_str, eqD_bl, wI_ref, wI_tup, wS_exp, wS_nam, wS_sub, wS_tup, wS_par, wS_ret0, wS_ret, wS_ite, wS_for, wS_whl, wS_pass, wS_dead, wT_nil, wT_cons, onB_bl, onV_some, onO_some, onI_int, onZ_bl, List.getElem?_cons_zero, List.getElem?_cons_succ, List.set_cons_zero, List.set_cons_succ, decide_eq_true_eq, wF_len, wF_lent, wF_lens, wF_lst, wF_tup, wF_sum, wF_min, wF_max, wF_inti, wF_intb, wF_str, wM_app, wM_popA, wM_join, wM_split, rcv_app, rcv_popA, rcv_join, rcv_split, wR_1, wR_2, wZ_3, wZ_2, walk_tup, walk_fl, wU_fl, wT_strs, at0, at1, at2, at3, at4, atL, items_tup, items_fl, true_and, Option.isSome_some, List.length_set, ixn_4_0, ixn_4_1, ixn_4_2, ixn_4_3, List.length_cons, List.length_nil, Nat.zero_add, Nat.reduceAdd, Nat.reduceLT, Nat.reduceLeDiff, ne_eq, Nat.reduceEqDiff, Int.reducePow, Int.reduceToNat, Int.reduceEq, Int.reduceLT, Int.reduceLE, Int.reduceNeg, not_false_eq_true, reduceIte, Bool.false_eq_true, List.map_cons, List.map_nil, List.eraseIdx_cons_zero, not_true_eq_false, Bool.not_true, Bool.not_false, List.length_append, List.append_assoc, List.cons_append, List.nil_append, List.append_nil, items_W, items_W0, items_c0, items_c1, items_c2, items_c3, items_c4, lst_W, lst_W0, lst_c0, lst_c1, lst_c2, lst_c3, set_W, wB_addl, Nat.add_assoc, items_cs, items_last, wI_strW, wC_in, wC_notin, opIn_sign, walk_str, wF_intS, wT_tt, wT_tl, wT_it, wT_il, wT_is, wT_ii, wT_ib, wF_all, isNon_non, isNon_int, isNon_ref, isNon_tup, isNon_str, items_V, lst_V, set_V, bls_repW, all_repW, lst_last, set_last, walk_c0, strs_mapD, wp_quiet, bind3, bind2, bindU2, bindU3, atLm, map_snoc_int, ints_mapD, items_ss, set_W0, Option.map_some, Nat.add_zero]
      exact short_number_w L1 G hy ⟨by simp [hsl], rfl, rfl⟩
    · cases hd2
      simp only [bind1, wE_var, wE_cst, wE_glb, wE_bin, wE_neg, wE_cmp, wE_chn, wE_band, wE_bor, wE_not, wE_ite, wE_tup, wE_lst, wE_ix, wE_slc, wE_call, wE_blt, wE_isi, wE_mth, wE_one, wE_comp, wE_fst, wL_nil, wL_cons, wO_none, wO_some, wC_none, wC_some, wF_nil, wF_cons, wI_seq, wI_rng, wI_zip, wI_enm, wB_add, wB_adds, wB_addt, wB_sub, wB_mul, wB_fdv, wB_mod, wB_pow, wC_lt, wC_le, wC_gt, wC_ge, wC_eq, wC_ne, wC_is, wC_isnot, eqD_int, eqD_str, eqD_bl, wI_ref, wI_tup, wS_exp, wS_nam, wS_sub, wS_tup, wS_par, wS_ret0, wS_ret, wS_ite, wS_for, wS_whl, wS_pass, wS_dead, wT_nil, wT_cons, onB_bl, onV_some, onO_some, onI_int, onZ_bl, List.getElem?_cons_zero, List.getElem?_cons_succ, List.set_cons_zero, List.set_cons_succ, decide_eq_true_eq, wF_len, wF_lent, wF_lens, wF_lst, wF_tup, wF_sum, wF_min, wF_max, wF_inti, wF_intb, wF_str, wM_app, wM_popA, wM_join, wM_split, rcv_app, rcv_popA, rcv_join, rcv_split, wR_1, wR_2, wZ_3, wZ_2, walk_tup, walk_fl, wU_fl, wT_strs, at0, at1, at2, at3, at4, atL, items_tup, items_fl, true_and, Option.isSome_some, List.length_set, ixn_4_0, ixn_4_1, ixn_4_2, ixn_4_3, List.length_cons, List.length_nil, Nat.zero_add, Nat.reduceAdd, Nat.reduceLT, Nat.reduceLeDiff, ne_eq, Nat.reduceEqDiff, Int.reducePow, Int.reduceToNat, Int.reduceEq, Int.reduceLT, Int.reduceLE, Int.reduceNeg, not_false_eq_true, reduceIte, Bool.false_eq_true, List.map_cons, List.map_nil, List.eraseIdx_cons_zero, not_true_eq_false, Bool.not_true, Bool.not_false, List.length_append, List.append_assoc, List.cons_append, List.nil_append, List.append_nil, items_W, items_W0, items_c0, items_c1, items_c2, items_c3, items_c4, lst_W, lst_W0, lst_c0, lst_c1, lst_c2, lst_c3, set_W, wB_addl, Nat.add_assoc, items_cs, items_last, wI_strW, wC_in, wC_notin, opIn_sign, walk_str, wF_intS, wT_tt, wT_tl, wT_it, wT_il, wT_is, wT_ii, wT_ib, wF_all, isNon_non, isNon_int, isNon_ref, isNon_tup, isNon_str, items_V, lst_V, set_V, bls_repW, all_repW, lst_last, set_last, walk_c0, strs_mapD, wp_quiet, bind3, bind2, bindU2, bindU3, atLm, map_snoc_int, ints_mapD, items_ss, set_W0, Option.map_some, Nat.add_zero]
      exact short_number_w L1 G hz ⟨by simp [hsl], rfl, rfl⟩
    · simp at hd2
  · rintro acc S' ⟨rfl, rfl⟩
    have o1 : opIn D.non (D.ref (S.length + 1)) (S ++ [.lst [.str x, .str y, .str z], .lst [.int i, .int j, .int k]]) = some false := by
      unfold opIn
      simp only [items_V, items_c1]
      rfl
    simp only [wE_var, wE_cst, wE_glb, wE_bin, wE_neg, wE_cmp, wE_chn, wE_band, wE_bor, wE_not, wE_ite, wE_tup, wE_lst, wE_ix, wE_slc, wE_call, wE_blt, wE_isi, wE_mth, wE_one, wE_comp, wE_fst, wL_nil, wL_cons, wO_none, wO_some, wC_none, wC_some, wF_nil, wF_cons, wI_seq, wI_rng, wI_zip, wI_enm, wB_add, wB_adds, wB_addt, wB_sub, wB_mul, wB_fdv, wB_mod, wB_pow, wC_lt, wC_le, wC_gt, wC_ge, wC_eq, wC_ne, wC_is, wC_isnot, eqD_int, eqD_str, eqD_bl, wI_ref, wI_tup, wS_exp, wS_nam, wS_sub, wS_tup, wS_par, wS_ret0, wS_ret, wS_ite, wS_for, wS_whl, wS_pass, wS_dead, wT_nil, wT_cons, onB_bl, onV_some, onO_some, onI_int, onZ_bl, List.getElem?_cons_zero, List.getElem?_cons_succ, List.set_cons_zero, List.set_cons_succ, decide_eq_true_eq, wF_len, wF_lent, wF_lens, wF_lst, wF_tup, wF_sum, wF_min, wF_max, wF_inti, wF_intb, wF_str, wM_app, wM_popA, wM_join, wM_split, rcv_app, rcv_popA, rcv_join, rcv_split, wR_1, wR_2, wZ_3, wZ_2, walk_tup, walk_fl, wU_fl, wT_strs, at0, at1, at2, at3, at4, atL, items_tup, items_fl, true_and, Option.isSome_some, List.length_set, ixn_4_0, ixn_4_1, ixn_4_2, ixn_4_3, List.length_cons, List.length_nil, Nat.zero_add, Nat.reduceAdd, Nat.reduceLT, Nat.reduceLeDiff, ne_eq, Nat.reduceEqDiff, Int.reducePow, Int.reduceToNat, Int.reduceEq, Int.reduceLT, Int.reduceLE, Int.reduceNeg, not_false_eq_true, reduceIte, Bool.false_eq_true, List.map_cons, List.map_nil, List.eraseIdx_cons_zero, not_true_eq_false, Bool.not_true, Bool.not_false, List.length_append, List.append_assoc, List.cons_append, List.nil_append, List.append_nil, items_W, items_W0, items_c0, items_c1, items_c2, items_c3, items_c4, lst_W, lst_W0, lst_c0, lst_c1, lst_c2, lst_c3, set_W, wB_addl, Nat.add_assoc, items_cs, items_last, wI_strW, wC_in, wC_notin, opIn_sign, walk_str, wF_intS, wT_tt, wT_tl, wT_it, wT_il, wT_is, wT_ii, wT_ib, wF_all, isNon_non, isNon_int, isNon_ref, isNon_tup, isNon_str, items_V, lst_V, set_V, bls_repW, all_repW, lst_last, set_last, walk_c0, strs_mapD, wp_quiet, bind3, bind2, bindU2, bindU3, atLm, map_snoc_int, ints_mapD, items_ss, set_W0, Option.map_some, Nat.add_zero, List.take, o1]
    exact q
/-- the numbers fit the place -/
theorem can_stand_w (L3 : Tb.lookup ("can_stand" : Str) = some d_can_stand) {n m : Nat} {d : D} {l r f : Int} {S : Sto} (h : Fit d l r f) (hm : items? S (.ref m) = some [.int l, .int r, .int f]) {Q : D → Sto → Prop} {X : XR} (q : Q (.bl true) S) :
    (callN Tb gl (n + 1) ("can_stand" : Str) [d, .ref m] S).wp Q X := by
  rw [callW (σ := [some d, some (.ref m), none, none, none]) L3 rfl rfl]
  have ne2 : ¬(("chamber" : Str) = ("end" : Str)) := by decide
  have ne3 : ¬(("pound" : Str) = ("end" : Str)) := by decide
  have ne4 : ¬(("pound" : Str) = ("chamber" : Str)) := by decide
  simp only [d_can_stand, wE_var, wE_cst, wE_glb, wE_bin, wE_neg, wE_cmp, wE_chn, wE_band, wE_bor, wE_not, wE_ite, wE_tup, wE_lst, wE_ix, wE_slc, wE_call, wE_blt, wE_isi, wE_mth, wE_one, wE_comp, wE_fst, wL_nil, wL_cons, wO_none, wO_some, wC_none, wC_some, wF_nil, wF_cons, wI_seq, wI_rng, wI_zip, wI_enm, wB_add, wB_adds, wB_addt, wB_sub, wB_mul, wB_fdv, wB_mod, wB_pow, wC_lt, wC_le, wC_gt, wC_ge, wC_eq, wC_ne, wC_is, wC_isnot, eqD_int, eqD_str, eqD_bl, wI_ref, wI_tup, wS_exp, wS_nam, wS_sub, wS_tup, wS_par, wS_ret0, wS_ret, wS_ite, wS_for, wS_whl, wS_pass, wS_dead, wT_nil, wT_cons, onB_bl, onV_some, onO_some, onI_int, onZ_bl, List.getElem?_cons_zero, List.getElem?_cons_succ, List.set_cons_zero, List.set_cons_succ, decide_eq_true_eq, wF_len, wF_lent, wF_lens, wF_lst, wF_tup, wF_sum, wF_min, wF_max, wF_inti, wF_intb, wF_str, wM_app, wM_popA, wM_join, wM_split, rcv_app, rcv_popA, rcv_join, rcv_split, wR_1, wR_2, wZ_3, wZ_2, walk_tup, walk_fl, wU_fl, wT_strs, at0, at1, at2, at3, at4, atL, items_tup, items_fl, true_and, Option.isSome_some, List.length_set, ixn_4_0, ixn_4_1, ixn_4_2, ixn_4_3, List.length_cons, List.length_nil, Nat.zero_add, Nat.reduceAdd, Nat.reduceLT, Nat.reduceLeDiff, ne_eq, Nat.reduceEqDiff, Int.reducePow, Int.reduceToNat, Int.reduceEq, Int.reduceLT, Int.reduceLE, Int.reduceNeg, not_false_eq_true, reduceIte, Bool.false_eq_true, List.map_cons, List.map_nil, List.eraseIdx_cons_zero, not_true_eq_false, Bool.not_true, Bool.not_false, List.length_append, List.append_assoc, List.cons_append, List.nil_append, List.append_nil, items_W, items_W0, items_c0, items_c1, items_c2, items_c3, items_c4, lst_W, lst_W0, lst_c0, lst_c1, lst_c2, lst_c3, set_W, wB_addl, Nat.add_assoc, items_cs, items_last, wI_strW, wC_in, wC_notin, opIn_sign, walk_str, wF_intS, wT_tt, wT_tl, wT_it, wT_il, wT_is, wT_ii, wT_ib, wF_all, isNon_non, isNon_int, isNon_ref, isNon_tup, isNon_str, items_V, lst_V, set_V, bls_repW, all_repW, lst_last, set_last, walk_c0, strs_mapD, wp_quiet, bind3, bind2, bindU2, bindU3, atLm, map_snoc_int, ints_mapD, items_ss, set_W0, Option.map_some, Nat.add_zero, bindU3r hm]
  cases h with
  | nd => simpa only [wE_var, wE_cst, wE_glb, wE_bin, wE_neg, wE_cmp, wE_chn, wE_band, wE_bor, wE_not, wE_ite, wE_tup, wE_lst, wE_ix, wE_slc, wE_call, wE_blt, wE_isi, wE_mth, wE_one, wE_comp, wE_fst, wL_nil, wL_cons, wO_none, wO_some, wC_none, wC_some, wF_nil, wF_cons, wI_seq, wI_rng, wI_zip, wI_enm, wB_add, wB_adds, wB_addt, wB_sub, wB_mul, wB_fdv, wB_mod, wB_pow, wC_lt, wC_le, wC_gt, wC_ge, wC_eq, wC_ne, wC_is, wC_isnot, eqD_int, eqD_str, eqD_bl, wI_ref, wI_tup, wS_exp, wS_nam, wS_sub, wS_tup, wS_par, wS_ret0, wS_ret, wS_ite, wS_for, wS_whl, wS_pass, wS_dead, wT_nil, wT_cons, onB_bl, onV_some, onO_some, onI_int, onZ_bl, List.getElem?_cons_zero, List.getElem?_cons_succ, List.set_cons_zero, List.set_cons_succ, decide_eq_true_eq, wF_len, wF_lent, wF_lens, wF_lst, wF_tup, wF_sum, wF_min, wF_max, wF_inti, wF_intb, wF_str, wM_app, wM_popA, wM_join, wM_split, rcv_app, rcv_popA, rcv_join, rcv_split, wR_1, wR_2, wZ_3, wZ_2, walk_tup, walk_fl, wU_fl, wT_strs, at0, at1, at2, at3, at4, atL, items_tup, items_fl, true_and, Option.isSome_some, List.length_set, ixn_4_0, ixn_4_1, ixn_4_2, ixn_4_3, List.length_cons, List.length_nil, Nat.zero_add, Nat.reduceAdd, Nat.reduceLT, Nat.reduceLeDiff, ne_eq, Nat.reduceEqDiff, Int.reducePow, Int.reduceToNat, Int.reduceEq, Int.reduceLT, Int.reduceLE, Int.reduceNeg, not_false_eq_true, reduceIte, Bool.false_eq_true, List.map_cons, List.map_nil, List.eraseIdx_cons_zero, not_true_eq_false, Bool.not_true, Bool.not_false, List.length_append, List.append_assoc, List.cons_append, List.nil_append, List.append_nil, items_W, items_W0, items_c0, items_c1, items_c2, items_c3, items_c4, lst_W, lst_W0, lst_c0, lst_c1, lst_c2, lst_c3, set_W, wB_addl, Nat.add_assoc, items_cs, items_last, wI_strW, wC_in, wC_notin, opIn_sign, walk_str, wF_intS, wT_tt, wT_tl, wT_it, wT_il, wT_is, wT_ii, wT_ib, wF_all, isNon_non, isNon_int, isNon_ref, isNon_tup, isNon_str, items_V, lst_V, set_V, bls_repW, all_repW, lst_last, set_last, walk_c0, strs_mapD, wp_quiet, bind3, bind2, bindU2, bindU3, atLm, map_snoc_int, ints_mapD, items_ss, set_W0, Option.map_some, Nat.add_zero, decide_true] using q
  | ch l r f l0 l1 r0 f0 rf =>
    simp only [wE_var, wE_cst, wE_glb, wE_bin, wE_neg, wE_cmp, wE_chn, wE_band, wE_bor, wE_not, wE_ite, wE_tup, wE_lst, wE_ix, wE_slc, wE_call, wE_blt, wE_isi, wE_mth, wE_one, wE_comp, wE_fst, wL_nil, wL_cons, wO_none, wO_some, wC_none, wC_some, wF_nil, wF_cons, wI_seq, wI_rng, wI_zip, wI_enm, wB_add, wB_adds, wB_addt, wB_sub, wB_mul, wB_fdv, wB_mod, wB_pow, wC_lt, wC_le, wC_gt, wC_ge, wC_eq, wC_ne, wC_is, wC_isnot, eqD_int, eqD_str, eqD_bl, wI_ref, wI_tup, wS_exp, wS_nam, wS_sub, wS_tup, wS_par, wS_ret0, wS_ret, wS_ite, wS_for, wS_whl, wS_pass, wS_dead, wT_nil, wT_cons, onB_bl, onV_some, onO_some, onI_int, onZ_bl, List.getElem?_cons_zero, List.getElem?_cons_succ, List.set_cons_zero, List.set_cons_succ, decide_eq_true_eq, wF_len, wF_lent, wF_lens, wF_lst, wF_tup, wF_sum, wF_min, wF_max, wF_inti, wF_intb, wF_str, wM_app, wM_popA, wM_join, wM_split, rcv_app, rcv_popA, rcv_join, rcv_split, wR_1, wR_2, wZ_3, wZ_2, walk_tup, walk_fl, wU_fl, wT_strs, at0, at1, at2, at3, at4, atL, items_tup, items_fl, true_and, Option.isSome_some, List.length_set, ixn_4_0, ixn_4_1, ixn_4_2, ixn_4_3, List.length_cons, List.length_nil, Nat.zero_add, Nat.reduceAdd, Nat.reduceLT, Nat.reduceLeDiff, ne_eq, Nat.reduceEqDiff, Int.reducePow, Int.reduceToNat, Int.reduceEq, Int.reduceLT, Int.reduceLE, Int.reduceNeg, not_false_eq_true, reduceIte, Bool.false_eq_true, List.map_cons, List.map_nil, List.eraseIdx_cons_zero, not_true_eq_false, Bool.not_true, Bool.not_false, List.length_append, List.append_assoc, List.cons_append, List.nil_append, List.append_nil, items_W, items_W0, items_c0, items_c1, items_c2, items_c3, items_c4, lst_W, lst_W0, lst_c0, lst_c1, lst_c2, lst_c3, set_W, wB_addl, Nat.add_assoc, items_cs, items_last, wI_strW, wC_in, wC_notin, opIn_sign, walk_str, wF_intS, wT_tt, wT_tl, wT_it, wT_il, wT_is, wT_ii, wT_ib, wF_all, isNon_non, isNon_int, isNon_ref, isNon_tup, isNon_str, items_V, lst_V, set_V, bls_repW, all_repW, lst_last, set_last, walk_c0, strs_mapD, wp_quiet, bind3, bind2, bindU2, bindU3, atLm, map_snoc_int, ints_mapD, items_ss, set_W0, Option.map_some, Nat.add_zero, ne2, l1, rf, decide_true]
    exact q
  | po b d m p l r f l0 l1 r0 f0 rf =>
    simp only [wE_var, wE_cst, wE_glb, wE_bin, wE_neg, wE_cmp, wE_chn, wE_band, wE_bor, wE_not, wE_ite, wE_tup, wE_lst, wE_ix, wE_slc, wE_call, wE_blt, wE_isi, wE_mth, wE_one, wE_comp, wE_fst, wL_nil, wL_cons, wO_none, wO_some, wC_none, wC_some, wF_nil, wF_cons, wI_seq, wI_rng, wI_zip, wI_enm, wB_add, wB_adds, wB_addt, wB_sub, wB_mul, wB_fdv, wB_mod, wB_pow, wC_lt, wC_le, wC_gt, wC_ge, wC_eq, wC_ne, wC_is, wC_isnot, eqD_int, eqD_str, eqD_bl, wI_ref, wI_tup, wS_exp, wS_nam, wS_sub, wS_tup, wS_par, wS_ret0, wS_ret, wS_ite, wS_for, wS_whl, wS_pass, wS_dead, wT_nil, wT_cons, onB_bl, onV_some, onO_some, onI_int, onZ_bl, List.getElem?_cons_zero, List.getElem?_cons_succ, List.set_cons_zero, List.set_cons_succ, decide_eq_true_eq, wF_len, wF_lent, wF_lens, wF_lst, wF_tup, wF_sum, wF_min, wF_max, wF_inti, wF_intb, wF_str, wM_app, wM_popA, wM_join, wM_split, rcv_app, rcv_popA, rcv_join, rcv_split, wR_1, wR_2, wZ_3, wZ_2, walk_tup, walk_fl, wU_fl, wT_strs, at0, at1, at2, at3, at4, atL, items_tup, items_fl, true_and, Option.isSome_some, List.length_set, ixn_4_0, ixn_4_1, ixn_4_2, ixn_4_3, List.length_cons, List.length_nil, Nat.zero_add, Nat.reduceAdd, Nat.reduceLT, Nat.reduceLeDiff, ne_eq, Nat.reduceEqDiff, Int.reducePow, Int.reduceToNat, Int.reduceEq, Int.reduceLT, Int.reduceLE, Int.reduceNeg, not_false_eq_true, reduceIte, Bool.false_eq_true, List.map_cons, List.map_nil, List.eraseIdx_cons_zero, not_true_eq_false, Bool.not_true, Bool.not_false, List.length_append, List.append_assoc, List.cons_append, List.nil_append, List.append_nil, items_W, items_W0, items_c0, items_c1, items_c2, items_c3, items_c4, lst_W, lst_W0, lst_c0, lst_c1, lst_c2, lst_c3, set_W, wB_addl, Nat.add_assoc, items_cs, items_last, wI_strW, wC_in, wC_notin, opIn_sign, walk_str, wF_intS, wT_tt, wT_tl, wT_it, wT_il, wT_is, wT_ii, wT_ib, wF_all, isNon_non, isNon_int, isNon_ref, isNon_tup, isNon_str, items_V, lst_V, set_V, bls_repW, all_repW, lst_last, set_last, walk_c0, strs_mapD, wp_quiet, bind3, bind2, bindU2, bindU3, atLm, map_snoc_int, ints_mapD, items_ss, set_W0, Option.map_some, Nat.add_zero, ne3, ne4, l1, rf, decide_true]
    exact q
/-- the stand's words -/
theorem line_split {p : Int × Int × Int} (h1 : 0 ≤ p.1 ∧ p.1 < 100) (h2 : 0 ≤ p.2.1 ∧ p.2.1 < 100) (h3 : 0 ≤ p.2.2 ∧ p.2.2 < 100) : Txt.split (line p) (":" : Str) = [(toString p.1 : Str), (toString p.2.1 : Str), (toString p.2.2 : Str)] := by
  have no : ∀ {z : Str} {i : Int}, Fg z i → 58 ∉ z.cps.toList := fun {z i} hz hc => absurd (hz.fg 58 hc) (by decide)
  have e : line p = Txt.join (":" : Str) [(toString p.1 : Str), (toString p.2.1 : Str), (toString p.2.2 : Str)] := by
    rw [TL.join_eq]
    show _ = (toString p.1 : Str) ++ (":" : Str) ++ ((toString p.2.1 : Str) ++ (":" : Str) ++ (toString p.2.2 : Str))
    unfold line
    simp only [Str.append_assoc]
  rw [e]
  refine TL.split_join (s := 58) (S := []) rfl (by decide +kernel) (by simp) fun q hq => ?_
  rcases List.mem_cons.1 hq with rfl | hq
  · exact no (fg_of h1.1 h1.2)
  rcases List.mem_cons.1 hq with rfl | hq
  · exact no (fg_of h2.1 h2.2)
  · cases List.mem_singleton.1 hq
    exact no (fg_of h3.1 h3.2)
theorem line_no {p : Int × Int × Int} (h1 : 0 ≤ p.1 ∧ p.1 < 100) (h2 : 0 ≤ p.2.1 ∧ p.2.1 < 100) (h3 : 0 ≤ p.2.2 ∧ p.2.2 < 100) : 32 ∉ (line p).cps.toList := by
  have no : ∀ {z : Str} {i : Int}, Fg z i → 32 ∉ z.cps.toList := fun {z i} hz hc => absurd (hz.fg 32 hc) (by decide)
  have n1 := no (fg_of h1.1 h1.2)
  have n2 := no (fg_of h2.1 h2.2)
  have n3 := no (fg_of h3.1 h3.2)
  have n4 : 32 ∉ ((":" : Str)).cps.toList := by decide
  unfold line
  simp only [Str.cps_append, Array.toList_append, List.mem_append, n1, n2, n3, n4, or_self, not_false_eq_true]
theorem enmD_get {ds : List D} {i : Nat} {d : D} (h : (enmD ds)[i]? = some d) : ∃ x, ds[i]? = some x ∧ d = .tup [.int (i : Nat), x] := by
  unfold enmD at h
  rw [List.getElem?_map, Option.map_eq_some_iff] at h
  obtain ⟨p, h1, h2⟩ := h
  rw [List.getElem?_zipIdx, Option.map_eq_some_iff] at h1
  obtain ⟨x, h3, h4⟩ := h1
  subst h4
  exact ⟨x, h3, by rw [← h2, Nat.zero_add]⟩
theorem enmD_len {ds : List D} : (enmD ds).length = ds.length := by
  unfold enmD
  rw [List.length_map, List.length_zipIdx]
theorem zip3_get' {a b c : List Int} {i : Nat} {p : Int × Int × Int} (h : (a.zip (b.zip c))[i]? = some p) : a[i]? = some p.1 ∧ b[i]? = some p.2.1 ∧ c[i]? = some p.2.2 := by
  rw [List.getElem?_zip_eq_some, List.getElem?_zip_eq_some] at h
  exact ⟨h.1, h.2.1, h.2.2⟩
theorem take_sum_le {hi : Int} : ∀ {ns : List Int} {i : Nat}, In 0 hi ns → (ns.take i).sum ≤ ns.sum
  | [], i, _ => by simp
  | n :: ns, 0, h => by
    have := (h n (List.mem_cons_self ..)).1
    have := take_sum_le (i := 0) (fun y hy => h y (List.mem_cons_of_mem _ hy) : In 0 hi ns)
    simp only [List.take_zero, List.sum_nil, List.sum_cons] at *
    omega
  | n :: ns, i + 1, h => by
    have := take_sum_le (i := i) (fun y hy => h y (List.mem_cons_of_mem _ hy) : In 0 hi ns)
    simp only [List.take_succ_cons, List.sum_cons]
    omega
theorem join_len (y : Str) : ∀ parts : List Str, (Str.join y parts).length ≤ (parts.map (·.length)).sum + parts.length * y.length
  | [] => by simp [Str.join, Str.length, Str.empty]
  | [x] => by
    show x.length ≤ _
    simp
  | x :: z :: r => by
    have ih := join_len y (z :: r)
    show (x ++ y ++ Str.join y (z :: r)).length ≤ _
    simp only [Str.length_append, List.map_cons, List.sum_cons, List.length_cons, Nat.add_mul] at *
    omega
theorem read_stand_w (L1 : Tb.lookup ("short_number" : Str) = some d_short_number) (L2 : Tb.lookup ("three_numbers" : Str) = some d_three_numbers) (L4 : Tb.lookup ("can_stand" : Str) = some d_can_stand) (L3 : Tb.lookup ("read_stand" : Str) = some d_read_stand) (G : gl ("FIGURES" : Str) = some (.str ("0123456789" : Str))) (GB : gl ("MOST_BARGES" : Str) = some (.int 60)) {n : Nat} {ps : List D} {gs : D} {lv r0 r1 : List Int} {S : Sto}
    (h1 : In 0 9 lv) (h2 : In 0 60 r0) (h3 : In 0 60 r1) (e0 : 1 ≤ ps.length ∧ ps.length ≤ 1000) (e1 : lv.length = ps.length) (e2 : r0.length = ps.length) (e3 : r1.length = ps.length) (hF : Fits ps lv r0 r1) (hS : r0.sum + r1.sum ≤ 60) {Q : D → Sto → Prop} {X : XR}
    (q : ∀ G, Q (.tup [.tup (lv.map D.int), .tup (r0.map D.int), .tup (r1.map D.int)]) (S ++ G)) : (callN Tb gl (n + 3) ("read_stand" : Str) [.tup [.tup ps, gs], .str (Txt.join (" " : Str) ((lv.zip (r0.zip r1)).map line))] S).wp Q X := by
  rw [callW (σ := [some (.tup [.tup ps, gs]), some (.str (Txt.join (" " : Str) ((lv.zip (r0.zip r1)).map line))), none, none, none, none, none, none, none]) L3 rfl rfl]
  have hsl : sizeLine = 16777216 := rfl
  have hzl : (lv.zip (r0.zip r1)).length = ps.length := by
    rw [List.length_zip, List.length_zip]
    omega
  have hsm : ∀ p ∈ lv.zip (r0.zip r1), (0 ≤ p.1 ∧ p.1 < 100) ∧ (0 ≤ p.2.1 ∧ p.2.1 < 100) ∧ (0 ≤ p.2.2 ∧ p.2.2 < 100) := by
    rintro ⟨x, y, z⟩ hp
    have q1 := (List.of_mem_zip hp).1
    have q2 := List.of_mem_zip (List.of_mem_zip hp).2
    have := h1 _ q1
    have := h2 _ q2.1
    have := h3 _ q2.2
    refine ⟨⟨?_, ?_⟩, ⟨?_, ?_⟩, ?_, ?_⟩ <;> (try dsimp only) <;> omega
  have hspl : Txt.split (Txt.join (" " : Str) ((lv.zip (r0.zip r1)).map line)) (" " : Str) = (lv.zip (r0.zip r1)).map line := by
    refine TL.split_join (s := 32) (S := []) rfl (by decide +kernel) (fun e => ?_) fun q hq => ?_
    · have := congrArg List.length e
      simp only [List.length_map, List.length_nil, hzl] at this
      omega
    · obtain ⟨p, hp, rfl⟩ := List.mem_map.1 hq
      have := hsm p hp
      exact line_no this.1 this.2.1 this.2.2
  have hjl : (Txt.join (" " : Str) ((lv.zip (r0.zip r1)).map line)).length ≤ 1000000 := by
    rw [TL.join_eq]
    refine Nat.le_trans (join_len _ _) ?_
    have e := sum_len (ys := (lv.zip (r0.zip r1)).map line) (fun y hy => by
      obtain ⟨p, hp, rfl⟩ := List.mem_map.1 hy
      have := hsm p hp
      have := line_len (p := p) ⟨⟨by omega, by omega⟩, ⟨by omega, by omega⟩, by omega, by omega⟩
      omega)
    have e2 : ((" " : Str)).length = 1 := by decide
    rw [e2]
    rw [List.length_map, hzl] at e ⊢
    omega
  have gw : (S ++ [O.lst [], O.lst [], O.lst [], O.lst (List.map D.str (List.map line (lv.zip (r0.zip r1))))])[S.length + 3]? = some (.lst (List.map D.str (List.map line (lv.zip (r0.zip r1))))) := getU rfl
  simp only [d_read_stand, wE_var, wE_cst, wE_glb, wE_bin, wE_neg, wE_cmp, wE_chn, wE_band, wE_bor, wE_not, wE_ite, wE_tup, wE_lst, wE_ix, wE_slc, wE_call, wE_blt, wE_isi, wE_mth, wE_one, wE_comp, wE_fst, wL_nil, wL_cons, wO_none, wO_some, wC_none, wC_some, wF_nil, wF_cons, wI_seq, wI_rng, wI_zip, wI_enm, wB_add, wB_adds, wB_addt, wB_sub, wB_mul, wB_fdv, wB_mod, wB_pow, wC_lt, wC_le, wC_gt, wC_ge, wC_eq, wC_ne, wC_is, wC_isnot, eqD_int, eqD_str, eqD_bl, wI_ref, wI_tup, wS_exp, wS_nam, wS_sub, wS_tup, wS_par, wS_ret0, wS_ret, wS_ite, wS_for, wS_whl, wS_pass, wS_dead, wT_nil, wT_cons, onB_bl, onV_some, onO_some, onI_int, onZ_bl, List.getElem?_cons_zero, List.getElem?_cons_succ, List.set_cons_zero, List.set_cons_succ, decide_eq_true_eq, wF_len, wF_lent, wF_lens, wF_lst, wF_tup, wF_sum, wF_min, wF_max, wF_inti, wF_intb, wF_str, wM_app, wM_popA, wM_join, wM_split, rcv_app, rcv_popA, rcv_join, rcv_split, wR_1, wR_2, wZ_3, wZ_2, walk_tup, walk_fl, wU_fl, wT_strs, at0, at1, at2, at3, at4, atL, items_tup, items_fl, true_and, Option.isSome_some, List.length_set, ixn_4_0, ixn_4_1, ixn_4_2, ixn_4_3, List.length_cons, List.length_nil, Nat.zero_add, Nat.reduceAdd, Nat.reduceLT, Nat.reduceLeDiff, ne_eq, Nat.reduceEqDiff, Int.reducePow, Int.reduceToNat, Int.reduceEq, Int.reduceLT, Int.reduceLE, Int.reduceNeg, not_false_eq_true, reduceIte, Bool.false_eq_true, List.map_cons, List.map_nil, List.eraseIdx_cons_zero, not_true_eq_false, Bool.not_true, Bool.not_false, List.length_append, List.append_assoc, List.cons_append, List.nil_append, List.append_nil, items_W, items_W0, items_c0, items_c1, items_c2, items_c3, items_c4, lst_W, lst_W0, lst_c0, lst_c1, lst_c2, lst_c3, set_W, wB_addl, Nat.add_assoc, items_cs, items_last, wI_strW, wC_in, wC_notin, opIn_sign, walk_str, wF_intS, wT_tt, wT_tl, wT_it, wT_il, wT_is, wT_ii, wT_ib, wF_all, isNon_non, isNon_int, isNon_ref, isNon_tup, isNon_str, items_V, lst_V, set_V, bls_repW, all_repW, lst_last, set_last, walk_c0, strs_mapD, wp_quiet, bind3, bind2, bindU2, bindU3, atLm, map_snoc_int, ints_mapD, items_ss, set_W0, Option.map_some, Nat.add_zero, hspl, wN_ref gw]
  refine ⟨by decide, by decide, by decide, ⟨by decide, by omega⟩, ?_⟩
  refine forW1 (fun i σ S' => ∃ (G : Sto) (y6 y7 y8 : Option D), σ = [some (.tup [.tup ps, gs]), some (.str (Txt.join (" " : Str) ((lv.zip (r0.zip r1)).map line))), some (.ref S.length), some (.ref (S.length + 1)), some (.ref (S.length + 2)), some (.int ((r0.take i).sum + (r1.take i).sum)), y6, y7, y8] ∧
      S' = S ++ (.lst ((lv.take i).map D.int) :: .lst ((r0.take i).map D.int) :: .lst ((r1.take i).map D.int) :: .lst (List.map D.str (List.map line (lv.zip (r0.zip r1)))) :: G))
    ⟨[], _, _, _, rfl, rfl⟩ ?_ ?_ ?_
  · rintro i σ S' ⟨G', y6, y7, y8, rfl, rfl⟩
    exact stab_one (getU rfl)
  · rintro i d σ S' ⟨G', y6, y7, y8, rfl, rfl⟩ hd
    obtain ⟨x, hx, rfl⟩ := enmD_get hd
    rw [List.getElem?_map, List.getElem?_map, Option.map_eq_some_iff] at hx
    obtain ⟨w, hw, rfl⟩ := hx
    rw [Option.map_eq_some_iff] at hw
    obtain ⟨p, hp, rfl⟩ := hw
    have hi : i < ps.length := by
      have := (List.getElem?_eq_some_iff.1 hp).1
      omega
    have hm := hsm p (List.mem_of_getElem? hp)
    obtain ⟨z1, z2, z3⟩ := zip3_get' hp
    obtain ⟨pd, hpd⟩ : ∃ pd, ps[i]? = some pd := ⟨ps[i], List.getElem?_eq_getElem hi⟩
    have hfit := hF i pd _ _ _ hpd z1 z2 z3
    have hat : atI ps (i : Int) = some pd := atN hpd
    have hll := line_len (p := p) ⟨⟨by omega, by omega⟩, ⟨by omega, by omega⟩, by omega, by omega⟩
    have t1 : (r0.take (i + 1)).sum = (r0.take i).sum + p.2.1 := by rw [take_snoc z2]; simp
    have t2 : (r1.take (i + 1)).sum = (r1.take i).sum + p.2.2 := by rw [take_snoc z3]; simp
    have u1 := take_sum_le (i := i + 1) h2
    have u2 := take_sum_le (i := i + 1) h3
    simp only [bind2, wE_var, wE_cst, wE_glb, wE_bin, wE_neg, wE_cmp, wE_chn, wE_band, wE_bor, wE_not, wE_ite, wE_tup, wE_lst, wE_ix, wE_slc, wE_call, wE_blt, wE_isi, wE_mth, wE_one, wE_comp, wE_fst, wL_nil, wL_cons, wO_none, wO_some, wC_none, wC_some, wF_nil, wF_cons, wI_seq, wI_rng, wI_zip, wI_enm, wB_add, wB_adds, wB_addt, wB_sub, wB_mul, wB_fdv, wB_mod, wB_pow, wC_lt, wC_le, wC_gt, wC_ge, wC_eq, wC_ne, wC_is, wC_isnot, eqD_int, eqD_str, eqD_bl, wI_ref, wI_tup, wS_exp, wS_nam, wS_sub, wS_tup, wS_par, wS_ret0, wS_ret, wS_ite, wS_for, wS_whl, wS_pass, wS_dead, wT_nil, wT_cons, onB_bl, onV_some, onO_some, onI_int, onZ_bl, List.getElem?_cons_zero, List.getElem?_cons_succ, List.set_cons_zero, List.set_cons_succ, decide_eq_true_eq, wF_len, wF_lent, wF_lens, wF_lst, wF_tup, wF_sum, wF_min, wF_max, wF_inti, wF_intb, wF_str, wM_app, wM_popA, wM_join, wM_split, rcv_app, rcv_popA, rcv_join, rcv_split, wR_1, wR_2, wZ_3, wZ_2, walk_tup, walk_fl, wU_fl, wT_strs, at0, at1, at2, at3, at4, atL, items_tup, items_fl, true_and, Option.isSome_some, List.length_set, ixn_4_0, ixn_4_1, ixn_4_2, ixn_4_3, List.length_cons, List.length_nil, Nat.zero_add, Nat.reduceAdd, Nat.reduceLT, Nat.reduceLeDiff, ne_eq, Nat.reduceEqDiff, Int.reducePow, Int.reduceToNat, Int.reduceEq, Int.reduceLT, Int.reduceLE, Int.reduceNeg, not_false_eq_true, reduceIte, Bool.false_eq_true, List.map_cons, List.map_nil, List.eraseIdx_cons_zero, not_true_eq_false, Bool.not_true, Bool.not_false, List.length_append, List.append_assoc, List.cons_append, List.nil_append, List.append_nil, items_W, items_W0, items_c0, items_c1, items_c2, items_c3, items_c4, lst_W, lst_W0, lst_c0, lst_c1, lst_c2, lst_c3, set_W, wB_addl, Nat.add_assoc, items_cs, items_last, wI_strW, wC_in, wC_notin, opIn_sign, walk_str, wF_intS, wT_tt, wT_tl, wT_it, wT_il, wT_is, wT_ii, wT_ib, wF_all, isNon_non, isNon_int, isNon_ref, isNon_tup, isNon_str, items_V, lst_V, set_V, bls_repW, all_repW, lst_last, set_last, walk_c0, strs_mapD, wp_quiet, bind3, bind2, bindU2, bindU3, atLm, map_snoc_int, ints_mapD, items_ss, set_W0, Option.map_some, Nat.add_zero]
    refine three_numbers_w L1 L2 G (fg_of hm.1.1 hm.1.2) (fg_of hm.2.1.1 hm.2.1.2) (fg_of hm.2.2.1 hm.2.2.2) (line_split hm.1 hm.2.1 hm.2.2) (by omega) ?_
    simp only [wE_var, wE_cst, wE_glb, wE_bin, wE_neg, wE_cmp, wE_chn, wE_band, wE_bor, wE_not, wE_ite, wE_tup, wE_lst, wE_ix, wE_slc, wE_call, wE_blt, wE_isi, wE_mth, wE_one, wE_comp, wE_fst, wL_nil, wL_cons, wO_none, wO_some, wC_none, wC_some, wF_nil, wF_cons, wI_seq, wI_rng, wI_zip, wI_enm, wB_add, wB_adds, wB_addt, wB_sub, wB_mul, wB_fdv, wB_mod, wB_pow, wC_lt, wC_le, wC_gt, wC_ge, wC_eq, wC_ne, wC_is, wC_isnot, eqD_int, eqD_str, eqD_bl, wI_ref, wI_tup, wS_exp, wS_nam, wS_sub, wS_tup, wS_par, wS_ret0, wS_ret, wS_ite, wS_for, wS_whl, wS_pass, wS_dead, wT_nil, wT_cons, onB_bl, onV_some, onO_some, onI_int, onZ_bl, List.getElem?_cons_zero, List.getElem?_cons_succ, List.set_cons_zero, List.set_cons_succ, decide_eq_true_eq, wF_len, wF_lent, wF_lens, wF_lst, wF_tup, wF_sum, wF_min, wF_max, wF_inti, wF_intb, wF_str, wM_app, wM_popA, wM_join, wM_split, rcv_app, rcv_popA, rcv_join, rcv_split, wR_1, wR_2, wZ_3, wZ_2, walk_tup, walk_fl, wU_fl, wT_strs, at0, at1, at2, at3, at4, atL, items_tup, items_fl, true_and, Option.isSome_some, List.length_set, ixn_4_0, ixn_4_1, ixn_4_2, ixn_4_3, List.length_cons, List.length_nil, Nat.zero_add, Nat.reduceAdd, Nat.reduceLT, Nat.reduceLeDiff, ne_eq, Nat.reduceEqDiff, Int.reducePow, Int.reduceToNat, Int.reduceEq, Int.reduceLT, Int.reduceLE, Int.reduceNeg, not_false_eq_true, reduceIte, Bool.false_eq_true, List.map_cons, List.map_nil, List.eraseIdx_cons_zero, not_true_eq_false, Bool.not_true, Bool.not_false, List.length_append, List.append_assoc, List.cons_append, List.nil_append, List.append_nil, items_W, items_W0, items_c0, items_c1, items_c2, items_c3, items_c4, lst_W, lst_W0, lst_c0, lst_c1, lst_c2, lst_c3, set_W, wB_addl, Nat.add_assoc, items_cs, items_last, wI_strW, wC_in, wC_notin, opIn_sign, walk_str, wF_intS, wT_tt, wT_tl, wT_it, wT_il, wT_is, wT_ii, wT_ib, wF_all, isNon_non, isNon_int, isNon_ref, isNon_tup, isNon_str, items_V, lst_V, set_V, bls_repW, all_repW, lst_last, set_last, walk_c0, strs_mapD, wp_quiet, bind3, bind2, bindU2, bindU3, atLm, map_snoc_int, ints_mapD, items_ss, set_W0, Option.map_some, Nat.add_zero, hat]
    refine ifI (fun e => by omega) fun _ => ?_
    refine can_stand_w L4 hfit (by simp only [wE_var, wE_cst, wE_glb, wE_bin, wE_neg, wE_cmp, wE_chn, wE_band, wE_bor, wE_not, wE_ite, wE_tup, wE_lst, wE_ix, wE_slc, wE_call, wE_blt, wE_isi, wE_mth, wE_one, wE_comp, wE_fst, wL_nil, wL_cons, wO_none, wO_some, wC_none, wC_some, wF_nil, wF_cons, wI_seq, wI_rng, wI_zip, wI_enm, wB_add, wB_adds, wB_addt, wB_sub, wB_mul, wB_fdv, wB_mod, wB_pow, wC_lt, wC_le, wC_gt, wC_ge, wC_eq, wC_ne, wC_is, wC_isnot, eqD_int, eqD_str, eqD_bl, wI_ref, wI_tup, wS_exp, wS_nam, wS_sub, wS_tup, wS_par, wS_ret0, wS_ret, wS_ite, wS_for, wS_whl, wS_pass, wS_dead, wT_nil, wT_cons, onB_bl, onV_some, onO_some, onI_int, onZ_bl, List.getElem?_cons_zero, List.getElem?_cons_succ, List.set_cons_zero, List.set_cons_succ, decide_eq_true_eq, wF_len, wF_lent, wF_lens, wF_lst, wF_tup, wF_sum, wF_min, wF_max, wF_inti, wF_intb, wF_str, wM_app, wM_popA, wM_join, wM_split, rcv_app, rcv_popA, rcv_join, rcv_split, wR_1, wR_2, wZ_3, wZ_2, walk_tup, walk_fl, wU_fl, wT_strs, at0, at1, at2, at3, at4, atL, items_tup, items_fl, true_and, Option.isSome_some, List.length_set, ixn_4_0, ixn_4_1, ixn_4_2, ixn_4_3, List.length_cons, List.length_nil, Nat.zero_add, Nat.reduceAdd, Nat.reduceLT, Nat.reduceLeDiff, ne_eq, Nat.reduceEqDiff, Int.reducePow, Int.reduceToNat, Int.reduceEq, Int.reduceLT, Int.reduceLE, Int.reduceNeg, not_false_eq_true, reduceIte, Bool.false_eq_true, List.map_cons, List.map_nil, List.eraseIdx_cons_zero, not_true_eq_false, Bool.not_true, Bool.not_false, List.length_append, List.append_assoc, List.cons_append, List.nil_append, List.append_nil, items_W, items_W0, items_c0, items_c1, items_c2, items_c3, items_c4, lst_W, lst_W0, lst_c0, lst_c1, lst_c2, lst_c3, set_W, wB_addl, Nat.add_assoc, items_cs, items_last, wI_strW, wC_in, wC_notin, opIn_sign, walk_str, wF_intS, wT_tt, wT_tl, wT_it, wT_il, wT_is, wT_ii, wT_ib, wF_all, isNon_non, isNon_int, isNon_ref, isNon_tup, isNon_str, items_V, lst_V, set_V, bls_repW, all_repW, lst_last, set_last, walk_c0, strs_mapD, wp_quiet, bind3, bind2, bindU2, bindU3, atLm, map_snoc_int, ints_mapD, items_ss, set_W0, Option.map_some, Nat.add_zero]) ?_
    simp only [wE_var, wE_cst, wE_glb, wE_bin, wE_neg, wE_cmp, wE_chn, wE_band, wE_bor, wE_not, wE_ite, wE_tup, wE_lst, wE_ix, wE_slc, wE_call, wE_blt, wE_isi, wE_mth, wE_one, wE_comp, wE_fst, wL_nil, wL_cons, wO_none, wO_some, wC_none, wC_some, wF_nil, wF_cons, wI_seq, wI_rng, wI_zip, wI_enm, wB_add, wB_adds, wB_addt, wB_sub, wB_mul, wB_fdv, wB_mod, wB_pow, wC_lt, wC_le, wC_gt, wC_ge, wC_eq, wC_ne, wC_is, wC_isnot, eqD_int, eqD_str, eqD_bl, wI_ref, wI_tup, wS_exp, wS_nam, wS_sub, wS_tup, wS_par, wS_ret0, wS_ret, wS_ite, wS_for, wS_whl, wS_pass, wS_dead, wT_nil, wT_cons, onB_bl, onV_some, onO_some, onI_int, onZ_bl, List.getElem?_cons_zero, List.getElem?_cons_succ, List.set_cons_zero, List.set_cons_succ, decide_eq_true_eq, wF_len, wF_lent, wF_lens, wF_lst, wF_tup, wF_sum, wF_min, wF_max, wF_inti, wF_intb, wF_str, wM_app, wM_popA, wM_join, wM_split, rcv_app, rcv_popA, rcv_join, rcv_split, wR_1, wR_2, wZ_3, wZ_2, walk_tup, walk_fl, wU_fl, wT_strs, at0, at1, at2, at3, at4, atL, items_tup, items_fl, true_and, Option.isSome_some, List.length_set, ixn_4_0, ixn_4_1, ixn_4_2, ixn_4_3, List.length_cons, List.length_nil, Nat.zero_add, Nat.reduceAdd, Nat.reduceLT, Nat.reduceLeDiff, ne_eq, Nat.reduceEqDiff, Int.reducePow, Int.reduceToNat, Int.reduceEq, Int.reduceLT, Int.reduceLE, Int.reduceNeg, not_false_eq_true, reduceIte, Bool.false_eq_true, List.map_cons, List.map_nil, List.eraseIdx_cons_zero, not_true_eq_false, Bool.not_true, Bool.not_false, List.length_append, List.append_assoc, List.cons_append, List.nil_append, List.append_nil, items_W, items_W0, items_c0, items_c1, items_c2, items_c3, items_c4, lst_W, lst_W0, lst_c0, lst_c1, lst_c2, lst_c3, set_W, wB_addl, Nat.add_assoc, items_cs, items_last, wI_strW, wC_in, wC_notin, opIn_sign, walk_str, wF_intS, wT_tt, wT_tl, wT_it, wT_il, wT_is, wT_ii, wT_ib, wF_all, isNon_non, isNon_int, isNon_ref, isNon_tup, isNon_str, items_V, lst_V, set_V, bls_repW, all_repW, lst_last, set_last, walk_c0, strs_mapD, wp_quiet, bind3, bind2, bindU2, bindU3, atLm, map_snoc_int, ints_mapD, items_ss, set_W0, Option.map_some, Nat.add_zero, GB]
    have hll2 : ∀ l : List Int, l.length = ps.length → ((l.take i).map D.int).length < sizeLine := fun l hl => by
      rw [List.length_map, List.length_take]
      omega
    have t3 : (r0.take i).sum + p.2.1 + ((r1.take i).sum + p.2.2) = (r0.take i).sum + (r1.take i).sum + p.2.1 + p.2.2 := by omega
    rw [t1, t2, t3, take_snoc z1, take_snoc z2, take_snoc z3]
    exact ifI (fun z => by omega) fun _ => ⟨hll2 _ e1, hll2 _ e2, hll2 _ e3, _, _, _, _, rfl, rfl⟩
  · rintro σ S' ⟨G', y6, y7, y8, rfl, rfl⟩
    rw [enmD_len, List.length_map, List.length_map, hzl]
    rw [List.take_of_length_le (Nat.le_of_eq e1), List.take_of_length_le (Nat.le_of_eq e2), List.take_of_length_le (Nat.le_of_eq e3)]
    simp only [wE_var, wE_cst, wE_glb, wE_bin, wE_neg, wE_cmp, wE_chn, wE_band, wE_bor, wE_not, wE_ite, wE_tup, wE_lst, wE_ix, wE_slc, wE_call, wE_blt, wE_isi, wE_mth, wE_one, wE_comp, wE_fst, wL_nil, wL_cons, wO_none, wO_some, wC_none, wC_some, wF_nil, wF_cons, wI_seq, wI_rng, wI_zip, wI_enm, wB_add, wB_adds, wB_addt, wB_sub, wB_mul, wB_fdv, wB_mod, wB_pow, wC_lt, wC_le, wC_gt, wC_ge, wC_eq, wC_ne, wC_is, wC_isnot, eqD_int, eqD_str, eqD_bl, wI_ref, wI_tup, wS_exp, wS_nam, wS_sub, wS_tup, wS_par, wS_ret0, wS_ret, wS_ite, wS_for, wS_whl, wS_pass, wS_dead, wT_nil, wT_cons, onB_bl, onV_some, onO_some, onI_int, onZ_bl, List.getElem?_cons_zero, List.getElem?_cons_succ, List.set_cons_zero, List.set_cons_succ, decide_eq_true_eq, wF_len, wF_lent, wF_lens, wF_lst, wF_tup, wF_sum, wF_min, wF_max, wF_inti, wF_intb, wF_str, wM_app, wM_popA, wM_join, wM_split, rcv_app, rcv_popA, rcv_join, rcv_split, wR_1, wR_2, wZ_3, wZ_2, walk_tup, walk_fl, wU_fl, wT_strs, at0, at1, at2, at3, at4, atL, items_tup, items_fl, true_and, Option.isSome_some, List.length_set, ixn_4_0, ixn_4_1, ixn_4_2, ixn_4_3, List.length_cons, List.length_nil, Nat.zero_add, Nat.reduceAdd, Nat.reduceLT, Nat.reduceLeDiff, ne_eq, Nat.reduceEqDiff, Int.reducePow, Int.reduceToNat, Int.reduceEq, Int.reduceLT, Int.reduceLE, Int.reduceNeg, not_false_eq_true, reduceIte, Bool.false_eq_true, List.map_cons, List.map_nil, List.eraseIdx_cons_zero, not_true_eq_false, Bool.not_true, Bool.not_false, List.length_append, List.append_assoc, List.cons_append, List.nil_append, List.append_nil, items_W, items_W0, items_c0, items_c1, items_c2, items_c3, items_c4, lst_W, lst_W0, lst_c0, lst_c1, lst_c2, lst_c3, set_W, wB_addl, Nat.add_assoc, items_cs, items_last, wI_strW, wC_in, wC_notin, opIn_sign, walk_str, wF_intS, wT_tt, wT_tl, wT_it, wT_il, wT_is, wT_ii, wT_ib, wF_all, isNon_non, isNon_int, isNon_ref, isNon_tup, isNon_str, items_V, lst_V, set_V, bls_repW, all_repW, lst_last, set_last, walk_c0, strs_mapD, wp_quiet, bind3, bind2, bindU2, bindU3, atLm, map_snoc_int, ints_mapD, items_ss, set_W0, Option.map_some, Nat.add_zero, List.length_map, e1]
    refine ifI (fun z => absurd z (Int.lt_irrefl _)) fun _ => ⟨by decide, q _⟩
/-! ### the same -/
theorem number_w (L1 : Tb.lookup ("_law_number" : Str) = some d__law_number) {n : Nat} {i : Int} {S : Sto} {Q : D → Sto → Prop} {X : XR} (q : Q (.bl true) S) : (callN Tb gl (n + 1) ("_law_number" : Str) [.int i] S).wp Q X := by
  rw [callW (σ := [some (.int i)]) L1 rfl rfl]
  simp only [d__law_number, wE_var, wE_cst, wE_glb, wE_bin, wE_neg, wE_cmp, wE_chn, wE_band, wE_bor, wE_not, wE_ite, wE_tup, wE_lst, wE_ix, wE_slc, wE_call, wE_blt, wE_isi, wE_mth, wE_one, wE_comp, wE_fst, wL_nil, wL_cons, wO_none, wO_some, wC_none, wC_some, wF_nil, wF_cons, wI_seq, wI_rng, wI_zip, wI_enm, wB_add, wB_adds, wB_addt, wB_sub, wB_mul, wB_fdv, wB_mod, wB_pow, wC_lt, wC_le, wC_gt, wC_ge, wC_eq, wC_ne, wC_is, wC_isnot, eqD_int, eqD_str, eqD_bl, wI_ref, wI_tup, wS_exp, wS_nam, wS_sub, wS_tup, wS_par, wS_ret0, wS_ret, wS_ite, wS_for, wS_whl, wS_pass, wS_dead, wT_nil, wT_cons, onB_bl, onV_some, onO_some, onI_int, onZ_bl, List.getElem?_cons_zero, List.getElem?_cons_succ, List.set_cons_zero, List.set_cons_succ, decide_eq_true_eq, wF_len, wF_lent, wF_lens, wF_lst, wF_tup, wF_sum, wF_min, wF_max, wF_inti, wF_intb, wF_str, wM_app, wM_popA, wM_join, wM_split, rcv_app, rcv_popA, rcv_join, rcv_split, wR_1, wR_2, wZ_3, wZ_2, walk_tup, walk_fl, wU_fl, wT_strs, at0, at1, at2, at3, at4, atL, items_tup, items_fl, true_and, Option.isSome_some, List.length_set, ixn_4_0, ixn_4_1, ixn_4_2, ixn_4_3, List.length_cons, List.length_nil, Nat.zero_add, Nat.reduceAdd, Nat.reduceLT, Nat.reduceLeDiff, ne_eq, Nat.reduceEqDiff, Int.reducePow, Int.reduceToNat, Int.reduceEq, Int.reduceLT, Int.reduceLE, Int.reduceNeg, not_false_eq_true, reduceIte, Bool.false_eq_true, List.map_cons, List.map_nil, List.eraseIdx_cons_zero, not_true_eq_false, Bool.not_true, Bool.not_false, List.length_append, List.append_assoc, List.cons_append, List.nil_append, List.append_nil, items_W, items_W0, items_c0, items_c1, items_c2, items_c3, items_c4, lst_W, lst_W0, lst_c0, lst_c1, lst_c2, lst_c3, set_W, wB_addl, Nat.add_assoc, items_cs, items_last, wI_strW, wC_in, wC_notin, opIn_sign, walk_str, wF_intS, wT_tt, wT_tl, wT_it, wT_il, wT_is, wT_ii, wT_ib, wF_all, isNon_non, isNon_int, isNon_ref, isNon_tup, isNon_str, items_V, lst_V, set_V, bls_repW, all_repW, lst_last, set_last, walk_c0, strs_mapD, wp_quiet, bind3, bind2, bindU2, bindU3, atLm, map_snoc_int, ints_mapD, items_ss, set_W0, Option.map_some, Nat.add_zero]
  exact q
theorem same_int (L1 : Tb.lookup ("_law_number" : Str) = some d__law_number) (L3 : Tb.lookup ("_law_same" : Str) = some d__law_same) {n : Nat} {i : Int} {S : Sto} {Q : D → Sto → Prop} {X : XR} (q : Q (.bl true) S) : (callN Tb gl (n + 2) ("_law_same" : Str) [.int i, .int i] S).wp Q X := by
  rw [callW (σ := [some (.int i), some (.int i), none, none]) L3 rfl rfl]
  simp only [d__law_same, wE_var, wE_cst, wE_glb, wE_bin, wE_neg, wE_cmp, wE_chn, wE_band, wE_bor, wE_not, wE_ite, wE_tup, wE_lst, wE_ix, wE_slc, wE_call, wE_blt, wE_isi, wE_mth, wE_one, wE_comp, wE_fst, wL_nil, wL_cons, wO_none, wO_some, wC_none, wC_some, wF_nil, wF_cons, wI_seq, wI_rng, wI_zip, wI_enm, wB_add, wB_adds, wB_addt, wB_sub, wB_mul, wB_fdv, wB_mod, wB_pow, wC_lt, wC_le, wC_gt, wC_ge, wC_eq, wC_ne, wC_is, wC_isnot, eqD_int, eqD_str, eqD_bl, wI_ref, wI_tup, wS_exp, wS_nam, wS_sub, wS_tup, wS_par, wS_ret0, wS_ret, wS_ite, wS_for, wS_whl, wS_pass, wS_dead, wT_nil, wT_cons, onB_bl, onV_some, onO_some, onI_int, onZ_bl, List.getElem?_cons_zero, List.getElem?_cons_succ, List.set_cons_zero, List.set_cons_succ, decide_eq_true_eq, wF_len, wF_lent, wF_lens, wF_lst, wF_tup, wF_sum, wF_min, wF_max, wF_inti, wF_intb, wF_str, wM_app, wM_popA, wM_join, wM_split, rcv_app, rcv_popA, rcv_join, rcv_split, wR_1, wR_2, wZ_3, wZ_2, walk_tup, walk_fl, wU_fl, wT_strs, at0, at1, at2, at3, at4, atL, items_tup, items_fl, true_and, Option.isSome_some, List.length_set, ixn_4_0, ixn_4_1, ixn_4_2, ixn_4_3, List.length_cons, List.length_nil, Nat.zero_add, Nat.reduceAdd, Nat.reduceLT, Nat.reduceLeDiff, ne_eq, Nat.reduceEqDiff, Int.reducePow, Int.reduceToNat, Int.reduceEq, Int.reduceLT, Int.reduceLE, Int.reduceNeg, not_false_eq_true, reduceIte, Bool.false_eq_true, List.map_cons, List.map_nil, List.eraseIdx_cons_zero, not_true_eq_false, Bool.not_true, Bool.not_false, List.length_append, List.append_assoc, List.cons_append, List.nil_append, List.append_nil, items_W, items_W0, items_c0, items_c1, items_c2, items_c3, items_c4, lst_W, lst_W0, lst_c0, lst_c1, lst_c2, lst_c3, set_W, wB_addl, Nat.add_assoc, items_cs, items_last, wI_strW, wC_in, wC_notin, opIn_sign, walk_str, wF_intS, wT_tt, wT_tl, wT_it, wT_il, wT_is, wT_ii, wT_ib, wF_all, isNon_non, isNon_int, isNon_ref, isNon_tup, isNon_str, items_V, lst_V, set_V, bls_repW, all_repW, lst_last, set_last, walk_c0, strs_mapD, wp_quiet, bind3, bind2, bindU2, bindU3, atLm, map_snoc_int, ints_mapD, items_ss, set_W0, Option.map_some, Nat.add_zero]
  refine number_w L1 ?_
  simp only [wE_var, wE_cst, wE_glb, wE_bin, wE_neg, wE_cmp, wE_chn, wE_band, wE_bor, wE_not, wE_ite, wE_tup, wE_lst, wE_ix, wE_slc, wE_call, wE_blt, wE_isi, wE_mth, wE_one, wE_comp, wE_fst, wL_nil, wL_cons, wO_none, wO_some, wC_none, wC_some, wF_nil, wF_cons, wI_seq, wI_rng, wI_zip, wI_enm, wB_add, wB_adds, wB_addt, wB_sub, wB_mul, wB_fdv, wB_mod, wB_pow, wC_lt, wC_le, wC_gt, wC_ge, wC_eq, wC_ne, wC_is, wC_isnot, eqD_int, eqD_str, eqD_bl, wI_ref, wI_tup, wS_exp, wS_nam, wS_sub, wS_tup, wS_par, wS_ret0, wS_ret, wS_ite, wS_for, wS_whl, wS_pass, wS_dead, wT_nil, wT_cons, onB_bl, onV_some, onO_some, onI_int, onZ_bl, List.getElem?_cons_zero, List.getElem?_cons_succ, List.set_cons_zero, List.set_cons_succ, decide_eq_true_eq, wF_len, wF_lent, wF_lens, wF_lst, wF_tup, wF_sum, wF_min, wF_max, wF_inti, wF_intb, wF_str, wM_app, wM_popA, wM_join, wM_split, rcv_app, rcv_popA, rcv_join, rcv_split, wR_1, wR_2, wZ_3, wZ_2, walk_tup, walk_fl, wU_fl, wT_strs, at0, at1, at2, at3, at4, atL, items_tup, items_fl, true_and, Option.isSome_some, List.length_set, ixn_4_0, ixn_4_1, ixn_4_2, ixn_4_3, List.length_cons, List.length_nil, Nat.zero_add, Nat.reduceAdd, Nat.reduceLT, Nat.reduceLeDiff, ne_eq, Nat.reduceEqDiff, Int.reducePow, Int.reduceToNat, Int.reduceEq, Int.reduceLT, Int.reduceLE, Int.reduceNeg, not_false_eq_true, reduceIte, Bool.false_eq_true, List.map_cons, List.map_nil, List.eraseIdx_cons_zero, not_true_eq_false, Bool.not_true, Bool.not_false, List.length_append, List.append_assoc, List.cons_append, List.nil_append, List.append_nil, items_W, items_W0, items_c0, items_c1, items_c2, items_c3, items_c4, lst_W, lst_W0, lst_c0, lst_c1, lst_c2, lst_c3, set_W, wB_addl, Nat.add_assoc, items_cs, items_last, wI_strW, wC_in, wC_notin, opIn_sign, walk_str, wF_intS, wT_tt, wT_tl, wT_it, wT_il, wT_is, wT_ii, wT_ib, wF_all, isNon_non, isNon_int, isNon_ref, isNon_tup, isNon_str, items_V, lst_V, set_V, bls_repW, all_repW, lst_last, set_last, walk_c0, strs_mapD, wp_quiet, bind3, bind2, bindU2, bindU3, atLm, map_snoc_int, ints_mapD, items_ss, set_W0, Option.map_some, Nat.add_zero, decide_true]
  exact q
/-- a tuple is the same as itself, if its parts are -/
theorem same_tup (L3 : Tb.lookup ("_law_same" : Str) = some d__law_same) {n : Nat} {xs : List D} {S : Sto} (hl : xs.length ≤ 1000) (hx : ∀ x ∈ xs, ∀ (S : Sto) (Q : D → Sto → Prop) (X : XR), (∀ G, Q (.bl true) (S ++ G)) → (callN Tb gl n ("_law_same" : Str) [x, x] S).wp Q X) {Q : D → Sto → Prop} {X : XR} (q : ∀ G, Q (.bl true) (S ++ G)) : (callN Tb gl (n + 1) ("_law_same" : Str) [.tup xs, .tup xs] S).wp Q X := by
  rw [callW (σ := [some (.tup xs), some (.tup xs), none, none]) L3 rfl rfl]
  have hsl : sizeLine = 16777216 := rfl
  simp only [d__law_same, wE_var, wE_cst, wE_glb, wE_bin, wE_neg, wE_cmp, wE_chn, wE_band, wE_bor, wE_not, wE_ite, wE_tup, wE_lst, wE_ix, wE_slc, wE_call, wE_blt, wE_isi, wE_mth, wE_one, wE_comp, wE_fst, wL_nil, wL_cons, wO_none, wO_some, wC_none, wC_some, wF_nil, wF_cons, wI_seq, wI_rng, wI_zip, wI_enm, wB_add, wB_adds, wB_addt, wB_sub, wB_mul, wB_fdv, wB_mod, wB_pow, wC_lt, wC_le, wC_gt, wC_ge, wC_eq, wC_ne, wC_is, wC_isnot, eqD_int, eqD_str, eqD_bl, wI_ref, wI_tup, wS_exp, wS_nam, wS_sub, wS_tup, wS_par, wS_ret0, wS_ret, wS_ite, wS_for, wS_whl, wS_pass, wS_dead, wT_nil, wT_cons, onB_bl, onV_some, onO_some, onI_int, onZ_bl, List.getElem?_cons_zero, List.getElem?_cons_succ, List.set_cons_zero, List.set_cons_succ, decide_eq_true_eq, wF_len, wF_lent, wF_lens, wF_lst, wF_tup, wF_sum, wF_min, wF_max, wF_inti, wF_intb, wF_str, wM_app, wM_popA, wM_join, wM_split, rcv_app, rcv_popA, rcv_join, rcv_split, wR_1, wR_2, wZ_3, wZ_2, walk_tup, walk_fl, wU_fl, wT_strs, at0, at1, at2, at3, at4, atL, items_tup, items_fl, true_and, Option.isSome_some, List.length_set, ixn_4_0, ixn_4_1, ixn_4_2, ixn_4_3, List.length_cons, List.length_nil, Nat.zero_add, Nat.reduceAdd, Nat.reduceLT, Nat.reduceLeDiff, ne_eq, Nat.reduceEqDiff, Int.reducePow, Int.reduceToNat, Int.reduceEq, Int.reduceLT, Int.reduceLE, Int.reduceNeg, not_false_eq_true, reduceIte, Bool.false_eq_true, List.map_cons, List.map_nil, List.eraseIdx_cons_zero, not_true_eq_false, Bool.not_true, Bool.not_false, List.length_append, List.append_assoc, List.cons_append, List.nil_append, List.append_nil, items_W, items_W0, items_c0, items_c1, items_c2, items_c3, items_c4, lst_W, lst_W0, lst_c0, lst_c1, lst_c2, lst_c3, set_W, wB_addl, Nat.add_assoc, items_cs, items_last, wI_strW, wC_in, wC_notin, opIn_sign, walk_str, wF_intS, wT_tt, wT_tl, wT_it, wT_il, wT_is, wT_ii, wT_ib, wF_all, isNon_non, isNon_int, isNon_ref, isNon_tup, isNon_str, items_V, lst_V, set_V, bls_repW, all_repW, lst_last, set_last, walk_c0, strs_mapD, wp_quiet, bind3, bind2, bindU2, bindU3, atLm, map_snoc_int, ints_mapD, items_ss, set_W0, Option.map_some, Nat.add_zero, decide_true]
  refine compW (fun i acc S' => (∃ G, S' = S ++ G) ∧ acc = List.replicate i (.bl true)) ⟨⟨[], by simp⟩, rfl⟩ (fun _ _ _ _ => stab_nil) ?_ ?_
  · rintro i d acc S' ⟨⟨G, rfl⟩, rfl⟩ hd
    rw [List.getElem?_map, Option.map_eq_some_iff] at hd
    obtain ⟨p, hp, rfl⟩ := hd
    have hi := (List.getElem?_eq_some_iff.1 hp).1
    rw [List.length_zip] at hi
    rw [List.getElem?_zip_eq_some] at hp
    have e : p.2 = p.1 := Option.some.inj (hp.2.symm.trans hp.1)
    simp only [wE_var, wE_cst, wE_glb, wE_bin, wE_neg, wE_cmp, wE_chn, wE_band, wE_bor, wE_not, wE_ite, wE_tup, wE_lst, wE_ix, wE_slc, wE_call, wE_blt, wE_isi, wE_mth, wE_one, wE_comp, wE_fst, wL_nil, wL_cons, wO_none, wO_some, wC_none, wC_some, wF_nil, wF_cons, wI_seq, wI_rng, wI_zip, wI_enm, wB_add, wB_adds, wB_addt, wB_sub, wB_mul, wB_fdv, wB_mod, wB_pow, wC_lt, wC_le, wC_gt, wC_ge, wC_eq, wC_ne, wC_is, wC_isnot, eqD_int, eqD_str, eqD_bl, wI_ref, wI_tup, wS_exp, wS_nam, wS_sub, wS_tup, wS_par, wS_ret0, wS_ret, wS_ite, wS_for, wS_whl, wS_pass, wS_dead, wT_nil, wT_cons, onB_bl, onV_some, onO_some, onI_int, onZ_bl, List.getElem?_cons_zero, List.getElem?_cons_succ, List.set_cons_zero, List.set_cons_succ, decide_eq_true_eq, wF_len, wF_lent, wF_lens, wF_lst, wF_tup, wF_sum, wF_min, wF_max, wF_inti, wF_intb, wF_str, wM_app, wM_popA, wM_join, wM_split, rcv_app, rcv_popA, rcv_join, rcv_split, wR_1, wR_2, wZ_3, wZ_2, walk_tup, walk_fl, wU_fl, wT_strs, at0, at1, at2, at3, at4, atL, items_tup, items_fl, true_and, Option.isSome_some, List.length_set, ixn_4_0, ixn_4_1, ixn_4_2, ixn_4_3, List.length_cons, List.length_nil, Nat.zero_add, Nat.reduceAdd, Nat.reduceLT, Nat.reduceLeDiff, ne_eq, Nat.reduceEqDiff, Int.reducePow, Int.reduceToNat, Int.reduceEq, Int.reduceLT, Int.reduceLE, Int.reduceNeg, not_false_eq_true, reduceIte, Bool.false_eq_true, List.map_cons, List.map_nil, List.eraseIdx_cons_zero, not_true_eq_false, Bool.not_true, Bool.not_false, List.length_append, List.append_assoc, List.cons_append, List.nil_append, List.append_nil, items_W, items_W0, items_c0, items_c1, items_c2, items_c3, items_c4, lst_W, lst_W0, lst_c0, lst_c1, lst_c2, lst_c3, set_W, wB_addl, Nat.add_assoc, items_cs, items_last, wI_strW, wC_in, wC_notin, opIn_sign, walk_str, wF_intS, wT_tt, wT_tl, wT_it, wT_il, wT_is, wT_ii, wT_ib, wF_all, isNon_non, isNon_int, isNon_ref, isNon_tup, isNon_str, items_V, lst_V, set_V, bls_repW, all_repW, lst_last, set_last, walk_c0, strs_mapD, wp_quiet, bind3, bind2, bindU2, bindU3, atLm, map_snoc_int, ints_mapD, items_ss, set_W0, Option.map_some, Nat.add_zero, e]
    refine hx _ (List.mem_of_getElem? hp.1) _ _ _ fun G2 => ⟨by rw [List.length_replicate]; omega, ⟨G ++ G2, by simp⟩, ?_⟩
    rw [List.replicate_succ']
  · rintro acc S' ⟨⟨G, rfl⟩, rfl⟩
    simp only [wE_var, wE_cst, wE_glb, wE_bin, wE_neg, wE_cmp, wE_chn, wE_band, wE_bor, wE_not, wE_ite, wE_tup, wE_lst, wE_ix, wE_slc, wE_call, wE_blt, wE_isi, wE_mth, wE_one, wE_comp, wE_fst, wL_nil, wL_cons, wO_none, wO_some, wC_none, wC_some, wF_nil, wF_cons, wI_seq, wI_rng, wI_zip, wI_enm, wB_add, wB_adds, wB_addt, wB_sub, wB_mul, wB_fdv, wB_mod, wB_pow, wC_lt, wC_le, wC_gt, wC_ge, wC_eq, wC_ne, wC_is, wC_isnot, eqD_int, eqD_str, eqD_bl, wI_ref, wI_tup, wS_exp, wS_nam, wS_sub, wS_tup, wS_par, wS_ret0, wS_ret, wS_ite, wS_for, wS_whl, wS_pass, wS_dead, wT_nil, wT_cons, onB_bl, onV_some, onO_some, onI_int, onZ_bl, List.getElem?_cons_zero, List.getElem?_cons_succ, List.set_cons_zero, List.set_cons_succ, decide_eq_true_eq, wF_len, wF_lent, wF_lens, wF_lst, wF_tup, wF_sum, wF_min, wF_max, wF_inti, wF_intb, wF_str, wM_app, wM_popA, wM_join, wM_split, rcv_app, rcv_popA, rcv_join, rcv_split, wR_1, wR_2, wZ_3, wZ_2, walk_tup, walk_fl, wU_fl, wT_strs, at0, at1, at2, at3, at4, atL, items_tup, items_fl, true_and, Option.isSome_some, List.length_set, ixn_4_0, ixn_4_1, ixn_4_2, ixn_4_3, List.length_cons, List.length_nil, Nat.zero_add, Nat.reduceAdd, Nat.reduceLT, Nat.reduceLeDiff, ne_eq, Nat.reduceEqDiff, Int.reducePow, Int.reduceToNat, Int.reduceEq, Int.reduceLT, Int.reduceLE, Int.reduceNeg, not_false_eq_true, reduceIte, Bool.false_eq_true, List.map_cons, List.map_nil, List.eraseIdx_cons_zero, not_true_eq_false, Bool.not_true, Bool.not_false, List.length_append, List.append_assoc, List.cons_append, List.nil_append, List.append_nil, items_W, items_W0, items_c0, items_c1, items_c2, items_c3, items_c4, lst_W, lst_W0, lst_c0, lst_c1, lst_c2, lst_c3, set_W, wB_addl, Nat.add_assoc, items_cs, items_last, wI_strW, wC_in, wC_notin, opIn_sign, walk_str, wF_intS, wT_tt, wT_tl, wT_it, wT_il, wT_is, wT_ii, wT_ib, wF_all, isNon_non, isNon_int, isNon_ref, isNon_tup, isNon_str, items_V, lst_V, set_V, bls_repW, all_repW, lst_last, set_last, walk_c0, strs_mapD, wp_quiet, bind3, bind2, bindU2, bindU3, atLm, map_snoc_int, ints_mapD, items_ss, set_W0, Option.map_some, Nat.add_zero]
    exact q _
theorem same_ints (L1 : Tb.lookup ("_law_number" : Str) = some d__law_number) (L3 : Tb.lookup ("_law_same" : Str) = some d__law_same) {n : Nat} {ns : List Int} {S : Sto} (hl : ns.length ≤ 1000) {Q : D → Sto → Prop} {X : XR} (q : ∀ G, Q (.bl true) (S ++ G)) : (callN Tb gl (n + 3) ("_law_same" : Str) [.tup (ns.map D.int), .tup (ns.map D.int)] S).wp Q X := by
  refine same_tup (n := n + 2) L3 (by rw [List.length_map]; exact hl) (fun x hx S Q X q => ?_) q
  obtain ⟨i, _, rfl⟩ := List.mem_map.1 hx
  have := q []
  rw [List.append_nil] at this
  exact same_int L1 L3 this
theorem same_stand (L1 : Tb.lookup ("_law_number" : Str) = some d__law_number) (L3 : Tb.lookup ("_law_same" : Str) = some d__law_same) {n : Nat} {a b c : List Int} {S : Sto} (h1 : a.length ≤ 1000) (h2 : b.length ≤ 1000) (h3 : c.length ≤ 1000) {Q : D → Sto → Prop} {X : XR} (q : ∀ G, Q (.bl true) (S ++ G)) :
    (callN Tb gl (n + 4) ("_law_same" : Str) [.tup [.tup (a.map D.int), .tup (b.map D.int), .tup (c.map D.int)], .tup [.tup (a.map D.int), .tup (b.map D.int), .tup (c.map D.int)]] S).wp Q X := by
  refine same_tup (n := n + 3) L3 (by simp) (fun x hx S Q X q => ?_) q
  rcases List.mem_cons.1 hx with rfl | hx
  · exact same_ints L1 L3 h1 q
  rcases List.mem_cons.1 hx with rfl | hx
  · exact same_ints L1 L3 h2 q
  · cases List.mem_singleton.1 hx
    exact same_ints L1 L3 h3 q
end
end Swl
namespace K81
open PySem PySem.Spec PyProof.Rows L2 Sw Swl
theorem law_plain (ns : List Int) (_ : ns.length ≤ 63) : ∃ S', callN Tb gl 16 ("law" : Str) [.fl (ns.map D.int)] [] = .ok (.bl true) S' := by
  suffices h : (callN Tb gl 16 ("law" : Str) [.fl (ns.map D.int)] []).wp (fun v _ => v = .bl true) X0 by
    obtain ⟨a, S, e, rfl⟩ := wp_get h
    exact ⟨S, e⟩
  have L : Lk Tb := ⟨tb__law_mixed, tb__law_take⟩
  rw [callW (σ := [some (.fl (ns.map D.int)), none, none, none]) tb_law rfl rfl]
  simp only [d_law, wE_var, wE_cst, wE_glb, wE_bin, wE_neg, wE_cmp, wE_chn, wE_band, wE_bor, wE_not, wE_ite, wE_tup, wE_lst, wE_ix, wE_slc, wE_call, wE_blt, wE_isi, wE_mth, wE_one, wE_comp, wE_fst, wL_nil, wL_cons, wO_none, wO_some, wC_none, wC_some, wF_nil, wF_cons, wI_seq, wI_rng, wI_zip, wI_enm, wB_add, wB_adds, wB_addt, wB_sub, wB_mul, wB_fdv, wB_mod, wB_pow, wC_lt, wC_le, wC_gt, wC_ge, wC_eq, wC_ne, wC_is, wC_isnot, eqD_int, eqD_str, eqD_bl, wI_ref, wI_tup, wS_exp, wS_nam, wS_sub, wS_tup, wS_par, wS_ret0, wS_ret, wS_ite, wS_for, wS_whl, wS_pass, wS_dead, wT_nil, wT_cons, onB_bl, onV_some, onO_some, onI_int, onZ_bl, List.getElem?_cons_zero, List.getElem?_cons_succ, List.set_cons_zero, List.set_cons_succ, decide_eq_true_eq, wF_len, wF_lent, wF_lens, wF_lst, wF_tup, wF_sum, wF_min, wF_max, wF_inti, wF_intb, wF_str, wM_app, wM_popA, wM_join, wM_split, rcv_app, rcv_popA, rcv_join, rcv_split, wR_1, wR_2, wZ_3, wZ_2, walk_tup, walk_fl, wU_fl, wT_strs, at0, at1, at2, at3, at4, atL, items_tup, items_fl, true_and, Option.isSome_some, List.length_set, ixn_4_0, ixn_4_1, ixn_4_2, ixn_4_3, List.length_cons, List.length_nil, Nat.zero_add, Nat.reduceAdd, Nat.reduceLT, Nat.reduceLeDiff, ne_eq, Nat.reduceEqDiff, Int.reducePow, Int.reduceToNat, Int.reduceEq, Int.reduceLT, Int.reduceLE, Int.reduceNeg, not_false_eq_true, reduceIte, Bool.false_eq_true, List.map_cons, List.map_nil, List.eraseIdx_cons_zero, not_true_eq_false, Bool.not_true, Bool.not_false, List.length_append, List.append_assoc, List.cons_append, List.nil_append, List.append_nil, items_W, items_W0, items_c0, items_c1, items_c2, items_c3, items_c4, lst_W, lst_W0, lst_c0, lst_c1, lst_c2, lst_c3, set_W, wB_addl, Nat.add_assoc, items_cs, items_last, wI_strW, wC_in, wC_notin, opIn_sign, walk_str, wF_intS, wT_tt, wT_tl, wT_it, wT_il, wT_is, wT_ii, wT_ib, wF_all, isNon_non, isNon_int, isNon_ref, isNon_tup, isNon_str, items_V, lst_V, set_V, bls_repW, all_repW, lst_last, set_last, walk_c0, strs_mapD, wp_quiet, bind3, bind2, bindU2, bindU3, atLm, map_snoc_int, ints_mapD, items_ss, set_W0, Option.map_some, Nat.add_zero]
  refine tape_w tb__law_tape fun T hT => ?_
  rw [show T = T ++ [] from (List.append_nil T).symm]
  refine canal_w (n := 11) L tb__law_places tb__law_canal hT fun ps gs T2 U hps hp1 hp2 _ _ hz0 hz1 h2 => ?_
  simp only [wE_var, wE_cst, wE_glb, wE_bin, wE_neg, wE_cmp, wE_chn, wE_band, wE_bor, wE_not, wE_ite, wE_tup, wE_lst, wE_ix, wE_slc, wE_call, wE_blt, wE_isi, wE_mth, wE_one, wE_comp, wE_fst, wL_nil, wL_cons, wO_none, wO_some, wC_none, wC_some, wF_nil, wF_cons, wI_seq, wI_rng, wI_zip, wI_enm, wB_add, wB_adds, wB_addt, wB_sub, wB_mul, wB_fdv, wB_mod, wB_pow, wC_lt, wC_le, wC_gt, wC_ge, wC_eq, wC_ne, wC_is, wC_isnot, eqD_int, eqD_str, eqD_bl, wI_ref, wI_tup, wS_exp, wS_nam, wS_sub, wS_tup, wS_par, wS_ret0, wS_ret, wS_ite, wS_for, wS_whl, wS_pass, wS_dead, wT_nil, wT_cons, onB_bl, onV_some, onO_some, onI_int, onZ_bl, List.getElem?_cons_zero, List.getElem?_cons_succ, List.set_cons_zero, List.set_cons_succ, decide_eq_true_eq, wF_len, wF_lent, wF_lens, wF_lst, wF_tup, wF_sum, wF_min, wF_max, wF_inti, wF_intb, wF_str, wM_app, wM_popA, wM_join, wM_split, rcv_app, rcv_popA, rcv_join, rcv_split, wR_1, wR_2, wZ_3, wZ_2, walk_tup, walk_fl, wU_fl, wT_strs, at0, at1, at2, at3, at4, atL, items_tup, items_fl, true_and, Option.isSome_some, List.length_set, ixn_4_0, ixn_4_1, ixn_4_2, ixn_4_3, List.length_cons, List.length_nil, Nat.zero_add, Nat.reduceAdd, Nat.reduceLT, Nat.reduceLeDiff, ne_eq, Nat.reduceEqDiff, Int.reducePow, Int.reduceToNat, Int.reduceEq, Int.reduceLT, Int.reduceLE, Int.reduceNeg, not_false_eq_true, reduceIte, Bool.false_eq_true, List.map_cons, List.map_nil, List.eraseIdx_cons_zero, not_true_eq_false, Bool.not_true, Bool.not_false, List.length_append, List.append_assoc, List.cons_append, List.nil_append, List.append_nil, items_W, items_W0, items_c0, items_c1, items_c2, items_c3, items_c4, lst_W, lst_W0, lst_c0, lst_c1, lst_c2, lst_c3, set_W, wB_addl, Nat.add_assoc, items_cs, items_last, wI_strW, wC_in, wC_notin, opIn_sign, walk_str, wF_intS, wT_tt, wT_tl, wT_it, wT_il, wT_is, wT_ii, wT_ib, wF_all, isNon_non, isNon_int, isNon_ref, isNon_tup, isNon_str, items_V, lst_V, set_V, bls_repW, all_repW, lst_last, set_last, walk_c0, strs_mapD, wp_quiet, bind3, bind2, bindU2, bindU3, atLm, map_snoc_int, ints_mapD, items_ss, set_W0, Option.map_some, Nat.add_zero]
  refine stand_w L tb__law_stand h2 hps hp1 hp2 hz0 hz1 fun lv r0 r1 T3 G a b c e1 e2 e3 hF hS h3 => ?_
  try simp only [wE_var, wE_cst, wE_glb, wE_bin, wE_neg, wE_cmp, wE_chn, wE_band, wE_bor, wE_not, wE_ite, wE_tup, wE_lst, wE_ix, wE_slc, wE_call, wE_blt, wE_isi, wE_mth, wE_one, wE_comp, wE_fst, wL_nil, wL_cons, wO_none, wO_some, wC_none, wC_some, wF_nil, wF_cons, wI_seq, wI_rng, wI_zip, wI_enm, wB_add, wB_adds, wB_addt, wB_sub, wB_mul, wB_fdv, wB_mod, wB_pow, wC_lt, wC_le, wC_gt, wC_ge, wC_eq, wC_ne, wC_is, wC_isnot, eqD_int, eqD_str, eqD_bl, wI_ref, wI_tup, wS_exp, wS_nam, wS_sub, wS_tup, wS_par, wS_ret0, wS_ret, wS_ite, wS_for, wS_whl, wS_pass, wS_dead, wT_nil, wT_cons, onB_bl, onV_some, onO_some, onI_int, onZ_bl, List.getElem?_cons_zero, List.getElem?_cons_succ, List.set_cons_zero, List.set_cons_succ, decide_eq_true_eq, wF_len, wF_lent, wF_lens, wF_lst, wF_tup, wF_sum, wF_min, wF_max, wF_inti, wF_intb, wF_str, wM_app, wM_popA, wM_join, wM_split, rcv_app, rcv_popA, rcv_join, rcv_split, wR_1, wR_2, wZ_3, wZ_2, walk_tup, walk_fl, wU_fl, wT_strs, at0, at1, at2, at3, at4, atL, items_tup, items_fl, true_and, Option.isSome_some, List.length_set, ixn_4_0, ixn_4_1, ixn_4_2, ixn_4_3, List.length_cons, List.length_nil, Nat.zero_add, Nat.reduceAdd, Nat.reduceLT, Nat.reduceLeDiff, ne_eq, Nat.reduceEqDiff, Int.reducePow, Int.reduceToNat, Int.reduceEq, Int.reduceLT, Int.reduceLE, Int.reduceNeg, not_false_eq_true, reduceIte, Bool.false_eq_true, List.map_cons, List.map_nil, List.eraseIdx_cons_zero, not_true_eq_false, Bool.not_true, Bool.not_false, List.length_append, List.append_assoc, List.cons_append, List.nil_append, List.append_nil, items_W, items_W0, items_c0, items_c1, items_c2, items_c3, items_c4, lst_W, lst_W0, lst_c0, lst_c1, lst_c2, lst_c3, set_W, wB_addl, Nat.add_assoc, items_cs, items_last, wI_strW, wC_in, wC_notin, opIn_sign, walk_str, wF_intS, wT_tt, wT_tl, wT_it, wT_il, wT_is, wT_ii, wT_ib, wF_all, isNon_non, isNon_int, isNon_ref, isNon_tup, isNon_str, items_V, lst_V, set_V, bls_repW, all_repW, lst_last, set_last, walk_c0, strs_mapD, wp_quiet, bind3, bind2, bindU2, bindU3, atLm, map_snoc_int, ints_mapD, items_ss, set_W0, Option.map_some, Nat.add_zero]
  have hs : ∀ p ∈ lv.zip (r0.zip r1), sm p := by
    rintro ⟨x, y, z⟩ hp
    have q1 := (List.of_mem_zip hp).1
    have q2 := List.of_mem_zip (List.of_mem_zip hp).2
    have := a _ q1
    have := b _ q2.1
    have := c _ q2.2
    refine ⟨?_, ?_, ?_⟩ <;> simp only [] <;> omega
  have hz : (lv.zip (r0.zip r1)).length ≤ 10000 := by
    rw [List.length_zip]
    omega
  refine law_stand_text_w tb__law_stand_text hs hz fun G2 => ?_
  try simp only [wE_var, wE_cst, wE_glb, wE_bin, wE_neg, wE_cmp, wE_chn, wE_band, wE_bor, wE_not, wE_ite, wE_tup, wE_lst, wE_ix, wE_slc, wE_call, wE_blt, wE_isi, wE_mth, wE_one, wE_comp, wE_fst, wL_nil, wL_cons, wO_none, wO_some, wC_none, wC_some, wF_nil, wF_cons, wI_seq, wI_rng, wI_zip, wI_enm, wB_add, wB_adds, wB_addt, wB_sub, wB_mul, wB_fdv, wB_mod, wB_pow, wC_lt, wC_le, wC_gt, wC_ge, wC_eq, wC_ne, wC_is, wC_isnot, eqD_int, eqD_str, eqD_bl, wI_ref, wI_tup, wS_exp, wS_nam, wS_sub, wS_tup, wS_par, wS_ret0, wS_ret, wS_ite, wS_for, wS_whl, wS_pass, wS_dead, wT_nil, wT_cons, onB_bl, onV_some, onO_some, onI_int, onZ_bl, List.getElem?_cons_zero, List.getElem?_cons_succ, List.set_cons_zero, List.set_cons_succ, decide_eq_true_eq, wF_len, wF_lent, wF_lens, wF_lst, wF_tup, wF_sum, wF_min, wF_max, wF_inti, wF_intb, wF_str, wM_app, wM_popA, wM_join, wM_split, rcv_app, rcv_popA, rcv_join, rcv_split, wR_1, wR_2, wZ_3, wZ_2, walk_tup, walk_fl, wU_fl, wT_strs, at0, at1, at2, at3, at4, atL, items_tup, items_fl, true_and, Option.isSome_some, List.length_set, ixn_4_0, ixn_4_1, ixn_4_2, ixn_4_3, List.length_cons, List.length_nil, Nat.zero_add, Nat.reduceAdd, Nat.reduceLT, Nat.reduceLeDiff, ne_eq, Nat.reduceEqDiff, Int.reducePow, Int.reduceToNat, Int.reduceEq, Int.reduceLT, Int.reduceLE, Int.reduceNeg, not_false_eq_true, reduceIte, Bool.false_eq_true, List.map_cons, List.map_nil, List.eraseIdx_cons_zero, not_true_eq_false, Bool.not_true, Bool.not_false, List.length_append, List.append_assoc, List.cons_append, List.nil_append, List.append_nil, items_W, items_W0, items_c0, items_c1, items_c2, items_c3, items_c4, lst_W, lst_W0, lst_c0, lst_c1, lst_c2, lst_c3, set_W, wB_addl, Nat.add_assoc, items_cs, items_last, wI_strW, wC_in, wC_notin, opIn_sign, walk_str, wF_intS, wT_tt, wT_tl, wT_it, wT_il, wT_is, wT_ii, wT_ib, wF_all, isNon_non, isNon_int, isNon_ref, isNon_tup, isNon_str, items_V, lst_V, set_V, bls_repW, all_repW, lst_last, set_last, walk_c0, strs_mapD, wp_quiet, bind3, bind2, bindU2, bindU3, atLm, map_snoc_int, ints_mapD, items_ss, set_W0, Option.map_some, Nat.add_zero]
  refine read_stand_w tb_short_number tb_three_numbers tb_can_stand tb_read_stand gl_FIGURES gl_MOST_BARGES a b c ⟨by omega, by omega⟩ e1 e2 e3 hF hS fun G3 => ?_
  try simp only [wE_var, wE_cst, wE_glb, wE_bin, wE_neg, wE_cmp, wE_chn, wE_band, wE_bor, wE_not, wE_ite, wE_tup, wE_lst, wE_ix, wE_slc, wE_call, wE_blt, wE_isi, wE_mth, wE_one, wE_comp, wE_fst, wL_nil, wL_cons, wO_none, wO_some, wC_none, wC_some, wF_nil, wF_cons, wI_seq, wI_rng, wI_zip, wI_enm, wB_add, wB_adds, wB_addt, wB_sub, wB_mul, wB_fdv, wB_mod, wB_pow, wC_lt, wC_le, wC_gt, wC_ge, wC_eq, wC_ne, wC_is, wC_isnot, eqD_int, eqD_str, eqD_bl, wI_ref, wI_tup, wS_exp, wS_nam, wS_sub, wS_tup, wS_par, wS_ret0, wS_ret, wS_ite, wS_for, wS_whl, wS_pass, wS_dead, wT_nil, wT_cons, onB_bl, onV_some, onO_some, onI_int, onZ_bl, List.getElem?_cons_zero, List.getElem?_cons_succ, List.set_cons_zero, List.set_cons_succ, decide_eq_true_eq, wF_len, wF_lent, wF_lens, wF_lst, wF_tup, wF_sum, wF_min, wF_max, wF_inti, wF_intb, wF_str, wM_app, wM_popA, wM_join, wM_split, rcv_app, rcv_popA, rcv_join, rcv_split, wR_1, wR_2, wZ_3, wZ_2, walk_tup, walk_fl, wU_fl, wT_strs, at0, at1, at2, at3, at4, atL, items_tup, items_fl, true_and, Option.isSome_some, List.length_set, ixn_4_0, ixn_4_1, ixn_4_2, ixn_4_3, List.length_cons, List.length_nil, Nat.zero_add, Nat.reduceAdd, Nat.reduceLT, Nat.reduceLeDiff, ne_eq, Nat.reduceEqDiff, Int.reducePow, Int.reduceToNat, Int.reduceEq, Int.reduceLT, Int.reduceLE, Int.reduceNeg, not_false_eq_true, reduceIte, Bool.false_eq_true, List.map_cons, List.map_nil, List.eraseIdx_cons_zero, not_true_eq_false, Bool.not_true, Bool.not_false, List.length_append, List.append_assoc, List.cons_append, List.nil_append, List.append_nil, items_W, items_W0, items_c0, items_c1, items_c2, items_c3, items_c4, lst_W, lst_W0, lst_c0, lst_c1, lst_c2, lst_c3, set_W, wB_addl, Nat.add_assoc, items_cs, items_last, wI_strW, wC_in, wC_notin, opIn_sign, walk_str, wF_intS, wT_tt, wT_tl, wT_it, wT_il, wT_is, wT_ii, wT_ib, wF_all, isNon_non, isNon_int, isNon_ref, isNon_tup, isNon_str, items_V, lst_V, set_V, bls_repW, all_repW, lst_last, set_last, walk_c0, strs_mapD, wp_quiet, bind3, bind2, bindU2, bindU3, atLm, map_snoc_int, ints_mapD, items_ss, set_W0, Option.map_some, Nat.add_zero]
  refine same_stand tb__law_number tb__law_same (by omega) (by omega) (by omega) fun G4 => ?_
  simp only [wE_var, wE_cst, wE_glb, wE_bin, wE_neg, wE_cmp, wE_chn, wE_band, wE_bor, wE_not, wE_ite, wE_tup, wE_lst, wE_ix, wE_slc, wE_call, wE_blt, wE_isi, wE_mth, wE_one, wE_comp, wE_fst, wL_nil, wL_cons, wO_none, wO_some, wC_none, wC_some, wF_nil, wF_cons, wI_seq, wI_rng, wI_zip, wI_enm, wB_add, wB_adds, wB_addt, wB_sub, wB_mul, wB_fdv, wB_mod, wB_pow, wC_lt, wC_le, wC_gt, wC_ge, wC_eq, wC_ne, wC_is, wC_isnot, eqD_int, eqD_str, eqD_bl, wI_ref, wI_tup, wS_exp, wS_nam, wS_sub, wS_tup, wS_par, wS_ret0, wS_ret, wS_ite, wS_for, wS_whl, wS_pass, wS_dead, wT_nil, wT_cons, onB_bl, onV_some, onO_some, onI_int, onZ_bl, List.getElem?_cons_zero, List.getElem?_cons_succ, List.set_cons_zero, List.set_cons_succ, decide_eq_true_eq, wF_len, wF_lent, wF_lens, wF_lst, wF_tup, wF_sum, wF_min, wF_max, wF_inti, wF_intb, wF_str, wM_app, wM_popA, wM_join, wM_split, rcv_app, rcv_popA, rcv_join, rcv_split, wR_1, wR_2, wZ_3, wZ_2, walk_tup, walk_fl, wU_fl, wT_strs, at0, at1, at2, at3, at4, atL, items_tup, items_fl, true_and, Option.isSome_some, List.length_set, ixn_4_0, ixn_4_1, ixn_4_2, ixn_4_3, List.length_cons, List.length_nil, Nat.zero_add, Nat.reduceAdd, Nat.reduceLT, Nat.reduceLeDiff, ne_eq, Nat.reduceEqDiff, Int.reducePow, Int.reduceToNat, Int.reduceEq, Int.reduceLT, Int.reduceLE, Int.reduceNeg, not_false_eq_true, reduceIte, Bool.false_eq_true, List.map_cons, List.map_nil, List.eraseIdx_cons_zero, not_true_eq_false, Bool.not_true, Bool.not_false, List.length_append, List.append_assoc, List.cons_append, List.nil_append, List.append_nil, items_W, items_W0, items_c0, items_c1, items_c2, items_c3, items_c4, lst_W, lst_W0, lst_c0, lst_c1, lst_c2, lst_c3, set_W, wB_addl, Nat.add_assoc, items_cs, items_last, wI_strW, wC_in, wC_notin, opIn_sign, walk_str, wF_intS, wT_tt, wT_tl, wT_it, wT_il, wT_is, wT_ii, wT_ib, wF_all, isNon_non, isNon_int, isNon_ref, isNon_tup, isNon_str, items_V, lst_V, set_V, bls_repW, all_repW, lst_last, set_last, walk_c0, strs_mapD, wp_quiet, bind3, bind2, bindU2, bindU3, atLm, map_snoc_int, ints_mapD, items_ss, set_W0, Option.map_some, Nat.add_zero]
  refine stand_text_w tb_stand_text hs hz fun G5 => ?_
  try simp only [wE_var, wE_cst, wE_glb, wE_bin, wE_neg, wE_cmp, wE_chn, wE_band, wE_bor, wE_not, wE_ite, wE_tup, wE_lst, wE_ix, wE_slc, wE_call, wE_blt, wE_isi, wE_mth, wE_one, wE_comp, wE_fst, wL_nil, wL_cons, wO_none, wO_some, wC_none, wC_some, wF_nil, wF_cons, wI_seq, wI_rng, wI_zip, wI_enm, wB_add, wB_adds, wB_addt, wB_sub, wB_mul, wB_fdv, wB_mod, wB_pow, wC_lt, wC_le, wC_gt, wC_ge, wC_eq, wC_ne, wC_is, wC_isnot, eqD_int, eqD_str, eqD_bl, wI_ref, wI_tup, wS_exp, wS_nam, wS_sub, wS_tup, wS_par, wS_ret0, wS_ret, wS_ite, wS_for, wS_whl, wS_pass, wS_dead, wT_nil, wT_cons, onB_bl, onV_some, onO_some, onI_int, onZ_bl, List.getElem?_cons_zero, List.getElem?_cons_succ, List.set_cons_zero, List.set_cons_succ, decide_eq_true_eq, wF_len, wF_lent, wF_lens, wF_lst, wF_tup, wF_sum, wF_min, wF_max, wF_inti, wF_intb, wF_str, wM_app, wM_popA, wM_join, wM_split, rcv_app, rcv_popA, rcv_join, rcv_split, wR_1, wR_2, wZ_3, wZ_2, walk_tup, walk_fl, wU_fl, wT_strs, at0, at1, at2, at3, at4, atL, items_tup, items_fl, true_and, Option.isSome_some, List.length_set, ixn_4_0, ixn_4_1, ixn_4_2, ixn_4_3, List.length_cons, List.length_nil, Nat.zero_add, Nat.reduceAdd, Nat.reduceLT, Nat.reduceLeDiff, ne_eq, Nat.reduceEqDiff, Int.reducePow, Int.reduceToNat, Int.reduceEq, Int.reduceLT, Int.reduceLE, Int.reduceNeg, not_false_eq_true, reduceIte, Bool.false_eq_true, List.map_cons, List.map_nil, List.eraseIdx_cons_zero, not_true_eq_false, Bool.not_true, Bool.not_false, List.length_append, List.append_assoc, List.cons_append, List.nil_append, List.append_nil, items_W, items_W0, items_c0, items_c1, items_c2, items_c3, items_c4, lst_W, lst_W0, lst_c0, lst_c1, lst_c2, lst_c3, set_W, wB_addl, Nat.add_assoc, items_cs, items_last, wI_strW, wC_in, wC_notin, opIn_sign, walk_str, wF_intS, wT_tt, wT_tl, wT_it, wT_il, wT_is, wT_ii, wT_ib, wF_all, isNon_non, isNon_int, isNon_ref, isNon_tup, isNon_str, items_V, lst_V, set_V, bls_repW, all_repW, lst_last, set_last, walk_c0, strs_mapD, wp_quiet, bind3, bind2, bindU2, bindU3, atLm, map_snoc_int, ints_mapD, items_ss, set_W0, Option.map_some, Nat.add_zero]
  refine read_stand_w tb_short_number tb_three_numbers tb_can_stand tb_read_stand gl_FIGURES gl_MOST_BARGES a b c ⟨by omega, by omega⟩ e1 e2 e3 hF hS fun G6 => ?_
  try simp only [wE_var, wE_cst, wE_glb, wE_bin, wE_neg, wE_cmp, wE_chn, wE_band, wE_bor, wE_not, wE_ite, wE_tup, wE_lst, wE_ix, wE_slc, wE_call, wE_blt, wE_isi, wE_mth, wE_one, wE_comp, wE_fst, wL_nil, wL_cons, wO_none, wO_some, wC_none, wC_some, wF_nil, wF_cons, wI_seq, wI_rng, wI_zip, wI_enm, wB_add, wB_adds, wB_addt, wB_sub, wB_mul, wB_fdv, wB_mod, wB_pow, wC_lt, wC_le, wC_gt, wC_ge, wC_eq, wC_ne, wC_is, wC_isnot, eqD_int, eqD_str, eqD_bl, wI_ref, wI_tup, wS_exp, wS_nam, wS_sub, wS_tup, wS_par, wS_ret0, wS_ret, wS_ite, wS_for, wS_whl, wS_pass, wS_dead, wT_nil, wT_cons, onB_bl, onV_some, onO_some, onI_int, onZ_bl, List.getElem?_cons_zero, List.getElem?_cons_succ, List.set_cons_zero, List.set_cons_succ, decide_eq_true_eq, wF_len, wF_lent, wF_lens, wF_lst, wF_tup, wF_sum, wF_min, wF_max, wF_inti, wF_intb, wF_str, wM_app, wM_popA, wM_join, wM_split, rcv_app, rcv_popA, rcv_join, rcv_split, wR_1, wR_2, wZ_3, wZ_2, walk_tup, walk_fl, wU_fl, wT_strs, at0, at1, at2, at3, at4, atL, items_tup, items_fl, true_and, Option.isSome_some, List.length_set, ixn_4_0, ixn_4_1, ixn_4_2, ixn_4_3, List.length_cons, List.length_nil, Nat.zero_add, Nat.reduceAdd, Nat.reduceLT, Nat.reduceLeDiff, ne_eq, Nat.reduceEqDiff, Int.reducePow, Int.reduceToNat, Int.reduceEq, Int.reduceLT, Int.reduceLE, Int.reduceNeg, not_false_eq_true, reduceIte, Bool.false_eq_true, List.map_cons, List.map_nil, List.eraseIdx_cons_zero, not_true_eq_false, Bool.not_true, Bool.not_false, List.length_append, List.append_assoc, List.cons_append, List.nil_append, List.append_nil, items_W, items_W0, items_c0, items_c1, items_c2, items_c3, items_c4, lst_W, lst_W0, lst_c0, lst_c1, lst_c2, lst_c3, set_W, wB_addl, Nat.add_assoc, items_cs, items_last, wI_strW, wC_in, wC_notin, opIn_sign, walk_str, wF_intS, wT_tt, wT_tl, wT_it, wT_il, wT_is, wT_ii, wT_ib, wF_all, isNon_non, isNon_int, isNon_ref, isNon_tup, isNon_str, items_V, lst_V, set_V, bls_repW, all_repW, lst_last, set_last, walk_c0, strs_mapD, wp_quiet, bind3, bind2, bindU2, bindU3, atLm, map_snoc_int, ints_mapD, items_ss, set_W0, Option.map_some, Nat.add_zero]
  exact same_stand tb__law_number tb__law_same (by omega) (by omega) (by omega) fun G7 => rfl
end K81

set_option Elab.async false
set_option linter.all false
set_option maxRecDepth 100000
set_option maxHeartbeats 1000000
namespace K81
open PySem PySem.Spec PyProof.Rows L2 Sw
def topS (i : Nat) : Stmt := PySem.Challenge.pw_summitwater_k81_stands_read.main.body.getD i (.Pass ⟨0, 0, 0, 0⟩)
abbrev s_stand_text : Stmt := topS 6
theorem sc_stand_text : FnScope d_stand_text.N d_stand_text.ps (defScope s_stand_text) := ⟨rfl, rfl, rfl, by decide +kernel, rfl, by decide +kernel, by decide +kernel⟩
theorem ck_stand_text : ckB Tn d_stand_text.N (defScope s_stand_text) d_stand_text.body (defBody s_stand_text) = true := by decide +kernel
abbrev s_short_number : Stmt := topS 7
theorem sc_short_number : FnScope d_short_number.N d_short_number.ps (defScope s_short_number) := ⟨rfl, rfl, rfl, by decide +kernel, rfl, by decide +kernel, by decide +kernel⟩
theorem ck_short_number : ckB Tn d_short_number.N (defScope s_short_number) d_short_number.body (defBody s_short_number) = true := by decide +kernel
abbrev s_three_numbers : Stmt := topS 8
theorem sc_three_numbers : FnScope d_three_numbers.N d_three_numbers.ps (defScope s_three_numbers) := ⟨rfl, rfl, rfl, by decide +kernel, rfl, by decide +kernel, by decide +kernel⟩
theorem ck_three_numbers : ckB Tn d_three_numbers.N (defScope s_three_numbers) d_three_numbers.body (defBody s_three_numbers) = true := by decide +kernel
abbrev s_can_stand : Stmt := topS 9
theorem sc_can_stand : FnScope d_can_stand.N d_can_stand.ps (defScope s_can_stand) := ⟨rfl, rfl, rfl, by decide +kernel, rfl, by decide +kernel, by decide +kernel⟩
theorem ck_can_stand : ckB Tn d_can_stand.N (defScope s_can_stand) d_can_stand.body (defBody s_can_stand) = true := by decide +kernel
abbrev s_read_stand : Stmt := topS 10
theorem sc_read_stand : FnScope d_read_stand.N d_read_stand.ps (defScope s_read_stand) := ⟨rfl, rfl, rfl, by decide +kernel, rfl, by decide +kernel, by decide +kernel⟩
theorem ck_read_stand : ckB Tn d_read_stand.N (defScope s_read_stand) d_read_stand.body (defBody s_read_stand) = true := by decide +kernel
abbrev s__law_mixed : Stmt := topS 12
theorem sc__law_mixed : FnScope d__law_mixed.N d__law_mixed.ps (defScope s__law_mixed) := ⟨rfl, rfl, rfl, by decide +kernel, rfl, by decide +kernel, by decide +kernel⟩
theorem ck__law_mixed : ckB Tn d__law_mixed.N (defScope s__law_mixed) d__law_mixed.body (defBody s__law_mixed) = true := by decide +kernel
abbrev s__law_tape : Stmt := topS 13
theorem sc__law_tape : FnScope d__law_tape.N d__law_tape.ps (defScope s__law_tape) := ⟨rfl, rfl, rfl, by decide +kernel, rfl, by decide +kernel, by decide +kernel⟩
theorem ck__law_tape : ckB Tn d__law_tape.N (defScope s__law_tape) d__law_tape.body (defBody s__law_tape) = true := by decide +kernel
abbrev s__law_take : Stmt := topS 14
theorem sc__law_take : FnScope d__law_take.N d__law_take.ps (defScope s__law_take) := ⟨rfl, rfl, rfl, by decide +kernel, rfl, by decide +kernel, by decide +kernel⟩
theorem ck__law_take : ckB Tn d__law_take.N (defScope s__law_take) d__law_take.body (defBody s__law_take) = true := by decide +kernel
abbrev s__law_places : Stmt := topS 15
theorem sc__law_places : FnScope d__law_places.N d__law_places.ps (defScope s__law_places) := ⟨rfl, rfl, rfl, by decide +kernel, rfl, by decide +kernel, by decide +kernel⟩
theorem ck__law_places : ckB Tn d__law_places.N (defScope s__law_places) d__law_places.body (defBody s__law_places) = true := by decide +kernel
abbrev s__law_canal : Stmt := topS 16
theorem sc__law_canal : FnScope d__law_canal.N d__law_canal.ps (defScope s__law_canal) := ⟨rfl, rfl, rfl, by decide +kernel, rfl, by decide +kernel, by decide +kernel⟩
theorem ck__law_canal : ckB Tn d__law_canal.N (defScope s__law_canal) d__law_canal.body (defBody s__law_canal) = true := by decide +kernel
abbrev s__law_stand : Stmt := topS 17
theorem sc__law_stand : FnScope d__law_stand.N d__law_stand.ps (defScope s__law_stand) := ⟨rfl, rfl, rfl, by decide +kernel, rfl, by decide +kernel, by decide +kernel⟩
theorem ck__law_stand : ckB Tn d__law_stand.N (defScope s__law_stand) d__law_stand.body (defBody s__law_stand) = true := by decide +kernel
abbrev s__law_stand_text : Stmt := topS 18
theorem sc__law_stand_text : FnScope d__law_stand_text.N d__law_stand_text.ps (defScope s__law_stand_text) := ⟨rfl, rfl, rfl, by decide +kernel, rfl, by decide +kernel, by decide +kernel⟩
theorem ck__law_stand_text : ckB Tn d__law_stand_text.N (defScope s__law_stand_text) d__law_stand_text.body (defBody s__law_stand_text) = true := by decide +kernel
abbrev s__law_number : Stmt := topS 19
theorem sc__law_number : FnScope d__law_number.N d__law_number.ps (defScope s__law_number) := ⟨rfl, rfl, rfl, by decide +kernel, rfl, by decide +kernel, by decide +kernel⟩
theorem ck__law_number : ckB Tn d__law_number.N (defScope s__law_number) d__law_number.body (defBody s__law_number) = true := by decide +kernel
abbrev s__law_same : Stmt := topS 20
theorem sc__law_same : FnScope d__law_same.N d__law_same.ps (defScope s__law_same) := ⟨rfl, rfl, rfl, by decide +kernel, rfl, by decide +kernel, by decide +kernel⟩
theorem ck__law_same : ckB Tn d__law_same.N (defScope s__law_same) d__law_same.body (defBody s__law_same) = true := by decide +kernel
abbrev s_law : Stmt := topS 21
theorem sc_law : FnScope d_law.N d_law.ps (defScope s_law) := ⟨rfl, rfl, rfl, by decide +kernel, rfl, by decide +kernel, by decide +kernel⟩
theorem ck_law : ckB Tn d_law.N (defScope s_law) d_law.body (defBody s_law) = true := by decide +kernel
set_option maxHeartbeats 4000000 in
theorem all_mk {l : PySem.W.OpenLaw} {w : World} {K : PySem.W.Frag} {h : Heap} {mg : Str → Option Value} {fa : Addr} (X : K.In h) (G : h.Ns mainGlobals mg) (hfa : mg "law" = some (.ref fa))
    {f0 f1 f2 f3 f4 f5 f6 f7 f8 f9 f10 f11 f12 f13 f14 : Addr} {od0 an0 od1 an1 od2 an2 od3 an3 od4 an4 od5 an5 od6 an6 od7 an7 od8 an8 od9 an9 od10 an10 od11 an11 od12 an12 od13 an13 od14 an14 : Option Addr} {sl0 sl1 sl2 sl3 sl4 sl5 sl6 sl7 sl8 sl9 sl10 sl11 sl12 sl13 sl14 : Array (Option Value)} {oc0 kV0 dc0 pm0 cd0 ct0 oc1 kV1 dc1 pm1 cd1 ct1 oc2 kV2 dc2 pm2 cd2 ct2 oc3 kV3 dc3 pm3 cd3 ct3 oc4 kV4 dc4 pm4 cd4 ct4 oc5 kV5 dc5 pm5 cd5 ct5 oc6 kV6 dc6 pm6 cd6 ct6 oc7 kV7 dc7 pm7 cd7 ct7 oc8 kV8 dc8 pm8 cd8 ct8 oc9 kV9 dc9 pm9 cd9 ct9 oc10 kV10 dc10 pm10 cd10 ct10 oc11 kV11 dc11 pm11 cd11 ct11 oc12 kV12 dc12 pm12 cd12 ct12 oc13 kV13 dc13 pm13 cd13 ct13 oc14 kV14 dc14 pm14 cd14 ct14 : Value}
    (a0 : PySem.W.nsIn K mainGlobals "stand_text" = some (some (.ref f0))) (l0 : K.lookup f0 = some ⟨oc0, od0, .func (PySem.W.fnOf "stand_text" "stand_text" (defArgs s_stand_text) (defBody s_stand_text) (defScope s_stand_text) .none kV0 dc0 pm0 an0 cd0 ct0), sl0⟩) (c0 : PySem.W.codeIn K cd0 "stand_text" = true) (k0 : PySem.W.keepIn K (.ref f0) = true)
    (a1 : PySem.W.nsIn K mainGlobals "short_number" = some (some (.ref f1))) (l1 : K.lookup f1 = some ⟨oc1, od1, .func (PySem.W.fnOf "short_number" "short_number" (defArgs s_short_number) (defBody s_short_number) (defScope s_short_number) .none kV1 dc1 pm1 an1 cd1 ct1), sl1⟩) (c1 : PySem.W.codeIn K cd1 "short_number" = true) (k1 : PySem.W.keepIn K (.ref f1) = true)
    (a2 : PySem.W.nsIn K mainGlobals "three_numbers" = some (some (.ref f2))) (l2 : K.lookup f2 = some ⟨oc2, od2, .func (PySem.W.fnOf "three_numbers" "three_numbers" (defArgs s_three_numbers) (defBody s_three_numbers) (defScope s_three_numbers) .none kV2 dc2 pm2 an2 cd2 ct2), sl2⟩) (c2 : PySem.W.codeIn K cd2 "three_numbers" = true) (k2 : PySem.W.keepIn K (.ref f2) = true)
    (a3 : PySem.W.nsIn K mainGlobals "can_stand" = some (some (.ref f3))) (l3 : K.lookup f3 = some ⟨oc3, od3, .func (PySem.W.fnOf "can_stand" "can_stand" (defArgs s_can_stand) (defBody s_can_stand) (defScope s_can_stand) .none kV3 dc3 pm3 an3 cd3 ct3), sl3⟩) (c3 : PySem.W.codeIn K cd3 "can_stand" = true) (k3 : PySem.W.keepIn K (.ref f3) = true)
    (a4 : PySem.W.nsIn K mainGlobals "read_stand" = some (some (.ref f4))) (l4 : K.lookup f4 = some ⟨oc4, od4, .func (PySem.W.fnOf "read_stand" "read_stand" (defArgs s_read_stand) (defBody s_read_stand) (defScope s_read_stand) .none kV4 dc4 pm4 an4 cd4 ct4), sl4⟩) (c4 : PySem.W.codeIn K cd4 "read_stand" = true) (k4 : PySem.W.keepIn K (.ref f4) = true)
    (a5 : PySem.W.nsIn K mainGlobals "_law_mixed" = some (some (.ref f5))) (l5 : K.lookup f5 = some ⟨oc5, od5, .func (PySem.W.fnOf "_law_mixed" "_law_mixed" (defArgs s__law_mixed) (defBody s__law_mixed) (defScope s__law_mixed) .none kV5 dc5 pm5 an5 cd5 ct5), sl5⟩) (c5 : PySem.W.codeIn K cd5 "_law_mixed" = true) (k5 : PySem.W.keepIn K (.ref f5) = true)
    (a6 : PySem.W.nsIn K mainGlobals "_law_tape" = some (some (.ref f6))) (l6 : K.lookup f6 = some ⟨oc6, od6, .func (PySem.W.fnOf "_law_tape" "_law_tape" (defArgs s__law_tape) (defBody s__law_tape) (defScope s__law_tape) .none kV6 dc6 pm6 an6 cd6 ct6), sl6⟩) (c6 : PySem.W.codeIn K cd6 "_law_tape" = true) (k6 : PySem.W.keepIn K (.ref f6) = true)
    (a7 : PySem.W.nsIn K mainGlobals "_law_take" = some (some (.ref f7))) (l7 : K.lookup f7 = some ⟨oc7, od7, .func (PySem.W.fnOf "_law_take" "_law_take" (defArgs s__law_take) (defBody s__law_take) (defScope s__law_take) .none kV7 dc7 pm7 an7 cd7 ct7), sl7⟩) (c7 : PySem.W.codeIn K cd7 "_law_take" = true) (k7 : PySem.W.keepIn K (.ref f7) = true)
    (a8 : PySem.W.nsIn K mainGlobals "_law_places" = some (some (.ref f8))) (l8 : K.lookup f8 = some ⟨oc8, od8, .func (PySem.W.fnOf "_law_places" "_law_places" (defArgs s__law_places) (defBody s__law_places) (defScope s__law_places) .none kV8 dc8 pm8 an8 cd8 ct8), sl8⟩) (c8 : PySem.W.codeIn K cd8 "_law_places" = true) (k8 : PySem.W.keepIn K (.ref f8) = true)
    (a9 : PySem.W.nsIn K mainGlobals "_law_canal" = some (some (.ref f9))) (l9 : K.lookup f9 = some ⟨oc9, od9, .func (PySem.W.fnOf "_law_canal" "_law_canal" (defArgs s__law_canal) (defBody s__law_canal) (defScope s__law_canal) .none kV9 dc9 pm9 an9 cd9 ct9), sl9⟩) (c9 : PySem.W.codeIn K cd9 "_law_canal" = true) (k9 : PySem.W.keepIn K (.ref f9) = true)
    (a10 : PySem.W.nsIn K mainGlobals "_law_stand" = some (some (.ref f10))) (l10 : K.lookup f10 = some ⟨oc10, od10, .func (PySem.W.fnOf "_law_stand" "_law_stand" (defArgs s__law_stand) (defBody s__law_stand) (defScope s__law_stand) .none kV10 dc10 pm10 an10 cd10 ct10), sl10⟩) (c10 : PySem.W.codeIn K cd10 "_law_stand" = true) (k10 : PySem.W.keepIn K (.ref f10) = true)
    (a11 : PySem.W.nsIn K mainGlobals "_law_stand_text" = some (some (.ref f11))) (l11 : K.lookup f11 = some ⟨oc11, od11, .func (PySem.W.fnOf "_law_stand_text" "_law_stand_text" (defArgs s__law_stand_text) (defBody s__law_stand_text) (defScope s__law_stand_text) .none kV11 dc11 pm11 an11 cd11 ct11), sl11⟩) (c11 : PySem.W.codeIn K cd11 "_law_stand_text" = true) (k11 : PySem.W.keepIn K (.ref f11) = true)
    (a12 : PySem.W.nsIn K mainGlobals "_law_number" = some (some (.ref f12))) (l12 : K.lookup f12 = some ⟨oc12, od12, .func (PySem.W.fnOf "_law_number" "_law_number" (defArgs s__law_number) (defBody s__law_number) (defScope s__law_number) .none kV12 dc12 pm12 an12 cd12 ct12), sl12⟩) (c12 : PySem.W.codeIn K cd12 "_law_number" = true) (k12 : PySem.W.keepIn K (.ref f12) = true)
    (a13 : PySem.W.nsIn K mainGlobals "_law_same" = some (some (.ref f13))) (l13 : K.lookup f13 = some ⟨oc13, od13, .func (PySem.W.fnOf "_law_same" "_law_same" (defArgs s__law_same) (defBody s__law_same) (defScope s__law_same) .none kV13 dc13 pm13 an13 cd13 ct13), sl13⟩) (c13 : PySem.W.codeIn K cd13 "_law_same" = true) (k13 : PySem.W.keepIn K (.ref f13) = true)
    (a14 : PySem.W.nsIn K mainGlobals "law" = some (some (.ref f14))) (l14 : K.lookup f14 = some ⟨oc14, od14, .func (PySem.W.fnOf "law" "law" (defArgs s_law) (defBody s_law) (defScope s_law) .none kV14 dc14 pm14 an14 cd14 ct14), sl14⟩) (c14 : PySem.W.codeIn K cd14 "law" = true) (k14 : PySem.W.keepIn K (.ref f14) = true)
    (z0 : PySem.W.nsIn K mainGlobals "all" = some none) (z1 : PySem.W.nsIn K mainGlobals "bool" = some none) (z2 : PySem.W.nsIn K mainGlobals "enumerate" = some none) (z3 : PySem.W.nsIn K mainGlobals "int" = some none) (z4 : PySem.W.nsIn K mainGlobals "isinstance" = some none) (z5 : PySem.W.nsIn K mainGlobals "len" = some none) (z6 : PySem.W.nsIn K mainGlobals "list" = some none) (z7 : PySem.W.nsIn K mainGlobals "min" = some none) (z8 : PySem.W.nsIn K mainGlobals "range" = some none) (z9 : PySem.W.nsIn K mainGlobals "str" = some none) (z10 : PySem.W.nsIn K mainGlobals "sum" = some none) (z11 : PySem.W.nsIn K mainGlobals "tuple" = some none) (z12 : PySem.W.nsIn K mainGlobals "zip" = some none)
    {t0 : Tok} (gv0 : PySem.W.nsIn K mainGlobals "FIGURES" = some (some (.str "0123456789" t0)))
    {t1 : Tok} (gv1 : PySem.W.nsIn K mainGlobals "MOST_BARGES" = some (some (.int 60 t1)))
    (hlaw : ∀ ns : List Int, ns.length ≤ 63 → ∃ S', callN Tb gl 16 ("law" : Str) [.fl (ns.map D.int)] [] = .ok (.bl true) S') :
    ∃ fd : FuncData, (∀ (s : Shared) (v : Value), BindsTo s fd ⟨[v], []⟩ [("script", v)]) ∧ ∀ base : Heap, K.In base → base.Ns mainGlobals mg → FnOk l.prog w K mg base (L2.CX l.prog w) 16 fa fd ["script"] (Sw.spLaw K) := by
  have e := hfa.symm.trans (PySem.W.mg_of X G a14)
  cases e
  have F0 := fun_mk (st := s_stand_text) l0 c0 k0
  have b0 := F0.binds (ps := d_stand_text.ps) fun _ _ _ _ _ _ us hl => match us, hl with | [_], _ => rfl
  have F1 := fun_mk (st := s_short_number) l1 c1 k1
  have b1 := F1.binds (ps := d_short_number.ps) fun _ _ _ _ _ _ us hl => match us, hl with | [_], _ => rfl
  have F2 := fun_mk (st := s_three_numbers) l2 c2 k2
  have b2 := F2.binds (ps := d_three_numbers.ps) fun _ _ _ _ _ _ us hl => match us, hl with | [_], _ => rfl
  have F3 := fun_mk (st := s_can_stand) l3 c3 k3
  have b3 := F3.binds (ps := d_can_stand.ps) fun _ _ _ _ _ _ us hl => match us, hl with | [_, _], _ => rfl
  have F4 := fun_mk (st := s_read_stand) l4 c4 k4
  have b4 := F4.binds (ps := d_read_stand.ps) fun _ _ _ _ _ _ us hl => match us, hl with | [_, _], _ => rfl
  have F5 := fun_mk (st := s__law_mixed) l5 c5 k5
  have b5 := F5.binds (ps := d__law_mixed.ps) fun _ _ _ _ _ _ us hl => match us, hl with | [_, _], _ => rfl
  have F6 := fun_mk (st := s__law_tape) l6 c6 k6
  have b6 := F6.binds (ps := d__law_tape.ps) fun _ _ _ _ _ _ us hl => match us, hl with | [_], _ => rfl
  have F7 := fun_mk (st := s__law_take) l7 c7 k7
  have b7 := F7.binds (ps := d__law_take.ps) fun _ _ _ _ _ _ us hl => match us, hl with | [_, _], _ => rfl
  have F8 := fun_mk (st := s__law_places) l8 c8 k8
  have b8 := F8.binds (ps := d__law_places.ps) fun _ _ _ _ _ _ us hl => match us, hl with | [_, _], _ => rfl
  have F9 := fun_mk (st := s__law_canal) l9 c9 k9
  have b9 := F9.binds (ps := d__law_canal.ps) fun _ _ _ _ _ _ us hl => match us, hl with | [_], _ => rfl
  have F10 := fun_mk (st := s__law_stand) l10 c10 k10
  have b10 := F10.binds (ps := d__law_stand.ps) fun _ _ _ _ _ _ us hl => match us, hl with | [_, _], _ => rfl
  have F11 := fun_mk (st := s__law_stand_text) l11 c11 k11
  have b11 := F11.binds (ps := d__law_stand_text.ps) fun _ _ _ _ _ _ us hl => match us, hl with | [_], _ => rfl
  have F12 := fun_mk (st := s__law_number) l12 c12 k12
  have b12 := F12.binds (ps := d__law_number.ps) fun _ _ _ _ _ _ us hl => match us, hl with | [_], _ => rfl
  have F13 := fun_mk (st := s__law_same) l13 c13 k13
  have b13 := F13.binds (ps := d__law_same.ps) fun _ _ _ _ _ _ us hl => match us, hl with | [_, _], _ => rfl
  have F14 := fun_mk (st := s_law) l14 c14 k14
  have b14 := F14.binds (ps := d_law.ps) fun _ _ _ _ _ _ us hl => match us, hl with | [_], _ => rfl
  have Xt : Txt Tb gl Tn K mg := Txt.mk_all (GlAll.get (l := gls) (⟨gl_str (PySem.W.mg_of X G gv0), ⟨gl_int (PySem.W.mg_of X G gv1), trivial⟩⟩)) rfl rfl
    (⟨PySem.W.mg_none_of X G z0, ⟨PySem.W.mg_none_of X G z1, ⟨PySem.W.mg_none_of X G z2, ⟨PySem.W.mg_none_of X G z3, ⟨PySem.W.mg_none_of X G z4, ⟨PySem.W.mg_none_of X G z5, ⟨PySem.W.mg_none_of X G z6, ⟨PySem.W.mg_none_of X G z7, ⟨PySem.W.mg_none_of X G z8, ⟨PySem.W.mg_none_of X G z9, ⟨PySem.W.mg_none_of X G z10, ⟨PySem.W.mg_none_of X G z11, ⟨PySem.W.mg_none_of X G z12, trivial⟩⟩⟩⟩⟩⟩⟩⟩⟩⟩⟩⟩⟩)
    (⟨⟨_, _, _, _, F0, PySem.W.mg_of X G a0, b0, sc_stand_text, ck_stand_text⟩, ⟨⟨_, _, _, _, F1, PySem.W.mg_of X G a1, b1, sc_short_number, ck_short_number⟩, ⟨⟨_, _, _, _, F2, PySem.W.mg_of X G a2, b2, sc_three_numbers, ck_three_numbers⟩, ⟨⟨_, _, _, _, F3, PySem.W.mg_of X G a3, b3, sc_can_stand, ck_can_stand⟩, ⟨⟨_, _, _, _, F4, PySem.W.mg_of X G a4, b4, sc_read_stand, ck_read_stand⟩, ⟨⟨_, _, _, _, F5, PySem.W.mg_of X G a5, b5, sc__law_mixed, ck__law_mixed⟩, ⟨⟨_, _, _, _, F6, PySem.W.mg_of X G a6, b6, sc__law_tape, ck__law_tape⟩, ⟨⟨_, _, _, _, F7, PySem.W.mg_of X G a7, b7, sc__law_take, ck__law_take⟩, ⟨⟨_, _, _, _, F8, PySem.W.mg_of X G a8, b8, sc__law_places, ck__law_places⟩, ⟨⟨_, _, _, _, F9, PySem.W.mg_of X G a9, b9, sc__law_canal, ck__law_canal⟩, ⟨⟨_, _, _, _, F10, PySem.W.mg_of X G a10, b10, sc__law_stand, ck__law_stand⟩, ⟨⟨_, _, _, _, F11, PySem.W.mg_of X G a11, b11, sc__law_stand_text, ck__law_stand_text⟩, ⟨⟨_, _, _, _, F12, PySem.W.mg_of X G a12, b12, sc__law_number, ck__law_number⟩, ⟨⟨_, _, _, _, F13, PySem.W.mg_of X G a13, b13, sc__law_same, ck__law_same⟩, ⟨⟨_, _, _, _, F14, PySem.W.mg_of X G a14, b14, sc_law, ck_law⟩, trivial⟩⟩⟩⟩⟩⟩⟩⟩⟩⟩⟩⟩⟩⟩⟩)
  exact ⟨_, fun s v => .of_eq rfl, fun base _ _ => law_ok Xt (d := d_law) tb_law rfl hlaw F14 sc_law ck_law⟩
end K81

set_option Elab.async false
set_option linter.all false
set_option maxRecDepth 100000
set_option maxHeartbeats 1000000
open PySem PySem.W PyProof.Rows
set_option maxHeartbeats 0 in
theorem PySem.Challenge.cw_summitwater_k81_stands_read_holds : PySem.Challenge.rw_summitwater_k81_stands_read.Holds := by
  w_on; o_law; k_head; (case hw => w_witness2)
  k_fill
  refine L2.walk_of (l := PySem.Challenge.rw_summitwater_k81_stands_read) (n := 63) (k := 16) (x := "script") (CX := fun w => L2.CX (PySem.Challenge.rw_summitwater_k81_stands_read).prog w) (sp := fun w => Sw.spLaw _) rfl (by decide) rfl ⟨rfl, by decide, by decide⟩ (fun w h Y => PySem.W.kIn_of Y) ?F (fun _ _ a ns hl ho hS => ⟨a, ns, rfl, ho, hS, hl, fun _ => rfl⟩) (fun _ _ _ _ _ h => Sw.cx_none h)
  case F =>
    intro w mg fa h KX G hmg
    refine' K81.all_mk KX G hmg ?a0 ?l0 ?c0 ?k0 ?a1 ?l1 ?c1 ?k1 ?a2 ?l2 ?c2 ?k2 ?a3 ?l3 ?c3 ?k3 ?a4 ?l4 ?c4 ?k4 ?a5 ?l5 ?c5 ?k5 ?a6 ?l6 ?c6 ?k6 ?a7 ?l7 ?c7 ?k7 ?a8 ?l8 ?c8 ?k8 ?a9 ?l9 ?c9 ?k9 ?a10 ?l10 ?c10 ?k10 ?a11 ?l11 ?c11 ?k11 ?a12 ?l12 ?c12 ?k12 ?a13 ?l13 ?c13 ?k13 ?a14 ?l14 ?c14 ?k14 ?z0 ?z1 ?z2 ?z3 ?z4 ?z5 ?z6 ?z7 ?z8 ?z9 ?z10 ?z11 ?z12 ?gv0 ?gv1 K81.law_plain
    (case a0 => k_is); (case l0 => k_is); (case c0 => k_is); (case k0 => k_is); (case a1 => k_is); (case l1 => k_is); (case c1 => k_is); (case k1 => k_is); (case a2 => k_is); (case l2 => k_is); (case c2 => k_is); (case k2 => k_is); (case a3 => k_is); (case l3 => k_is); (case c3 => k_is); (case k3 => k_is); (case a4 => k_is); (case l4 => k_is); (case c4 => k_is); (case k4 => k_is); (case a5 => k_is); (case l5 => k_is); (case c5 => k_is); (case k5 => k_is); (case a6 => k_is); (case l6 => k_is); (case c6 => k_is); (case k6 => k_is); (case a7 => k_is); (case l7 => k_is); (case c7 => k_is); (case k7 => k_is); (case a8 => k_is); (case l8 => k_is); (case c8 => k_is); (case k8 => k_is); (case a9 => k_is); (case l9 => k_is); (case c9 => k_is); (case k9 => k_is); (case a10 => k_is); (case l10 => k_is); (case c10 => k_is); (case k10 => k_is); (case a11 => k_is); (case l11 => k_is); (case c11 => k_is); (case k11 => k_is); (case a12 => k_is); (case l12 => k_is); (case c12 => k_is); (case k12 => k_is); (case a13 => k_is); (case l13 => k_is); (case c13 => k_is); (case k13 => k_is); (case a14 => k_is); (case l14 => k_is); (case c14 => k_is); (case k14 => k_is); (case z0 => k_is); (case z1 => k_is); (case z2 => k_is); (case z3 => k_is); (case z4 => k_is); (case z5 => k_is); (case z6 => k_is); (case z7 => k_is); (case z8 => k_is); (case z9 => k_is); (case z10 => k_is); (case z11 => k_is); (case z12 => k_is); (case gv0 => k_is); (case gv1 => k_is)
